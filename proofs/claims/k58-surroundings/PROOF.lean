import PyProof.Rows.All
import Wide.All
import OpenK.AllK
import Wide.FinOn
import HandS.ForMost
import HandS.Exc
import HandS.ExcOwn
import HandS.WordsExc
import HandS.Slots
import HandS.Star
import HandS.TupAny
import HandS.Wide
import HandS.IsInst
import HandS.FStr
import HandS.RaiseMore
import HandS.Walk
import HandS.Style
import HandS.SlotsOwn
import HandS.ClsMeth
import HandS.Iter
import KE.GoesEnum
import HandS.Ends
import HandS.HeadHook3
import HandS.Head2
import HandS.Deep
import HandS.TupMul
import HandS.Dict
import HandS.OwnEq
import PySem.Challenge.RW_seamsayings_k58_whole_surroundings
import HandS.HeadEnd
set_option Elab.async false
set_option linter.all false
set_option maxRecDepth 100000
set_option maxHeartbeats 4000000
namespace PM
open PySem L2

/-! ### data -/
inductive D where
  | non | bl (b : Bool) | int (i : Int) | str (x : Str) | tup (xs : List D) | lst (xs : List D) | dct (ks vs : List D) | obj (c : Nat) (fs : List D) | scr (xs : List D) | cls (c : Nat)

/-- what is fixed around a body: the written part, the classes by number -/
structure Wd where
  K : PySem.W.Frag
  cl : Nat → Addr

def WrT (K : PySem.W.Frag) (a : Addr) (xs : List V) : Prop :=
  ∃ (o : Obj) (its : Array Value) (n : Nat), K.lookup a = some o ∧ o.cls = .type "tuple" ∧ o.data = .seq its n ∧ its.size ≤ sizeLine ∧ Vals xs its.toList
def WrL (K : PySem.W.Frag) (a : Addr) (xs : List V) : Prop :=
  ∃ (o : Obj) (its : Array Value) (n : Nat), K.lookup a = some o ∧ o.cls = .type "list" ∧ o.dict = none ∧ o.data = .seq its n ∧ its.size ≤ sizeLine ∧ Vals xs its.toList

abbrev Av := Addr → Prop

/-- a tracked thing that is not guarded -/
def At (O : Av) (H : Hp) (a : Addr) (u : HO) : Prop := ¬ O a ∧ H a = some u

def keyD : D → Option Key
  | .int i => some (.inl i)
  | .str x => some (.inr x)
  | _ => none
def keysD : List D → List Key → Prop
  | [], ks => ks = []
  | d :: ds, ks => ∃ k ks', ks = k :: ks' ∧ keyD d = some k ∧ keysD ds ks'

mutual
def Rep (w : Wd) (O : Av) (H : Hp) : D → V → Prop
  | .non, v => v = .non
  | .bl b, v => v = .bl b
  | .int i, v => v = .int i
  | .str x, v => v = .str x
  | .cls c, v => v = .ref (w.cl c)
  | .tup ds, v => ∃ a vs, v = .ref a ∧ (At O H a (.tup vs) ∨ WrT w.K a vs) ∧ RepL w O H ds vs
  | .lst ds, v => ∃ a vs, v = .ref a ∧ At O H a (.lst vs) ∧ RepL w O H ds vs
  | .dct ks ds, v => ∃ a kvs, v = .ref a ∧ At O H a (.dK kvs) ∧ keysD ks (kvs.map (·.1)) ∧ RepL w O H ds (kvs.map (·.2))
  | .obj c fs, v => ∃ a dx vs, v = .ref a ∧ dx ≠ a ∧ ¬ O a ∧ ¬ O dx ∧ H a = some (SlX.SlO a (w.cl c) dx (vs.map some)) ∧ H dx = some (.xd []) ∧ RepL w O H fs vs
  | .scr ds, v => ∃ a vs, v = .ref a ∧ ((∃ o, At O H a (.frz o (.lst vs))) ∨ WrL w.K a vs) ∧ RepL w O H ds vs
def RepL (w : Wd) (O : Av) (H : Hp) : List D → List V → Prop
  | [], vs => vs = []
  | d :: ds, vs => ∃ v vs', vs = v :: vs' ∧ Rep w O H d v ∧ RepL w O H ds vs'
end

/-- from one time to a later one -/
structure Step (O : Av) (H : Hp) (O' : Av) (H' : Hp) : Prop where
  sub : ∀ a, O' a → O a ∨ H a = none
  kept : ∀ a o, ¬ O a → H a = some o → H' a = some o
  dom : ∀ a, H a ≠ none → H' a ≠ none
theorem Step.refl (O : Av) (H : Hp) : Step O H O H := ⟨fun _ h => .inl h, fun _ _ _ h => h, fun _ h => h⟩
theorem Step.off {O O' : Av} {H H' : Hp} (s : Step O H O' H') {a : Addr} (h : ¬ O a) (e : H a ≠ none) : ¬ O' a := fun q => (s.sub a q).elim h e
theorem Step.trans {O O' O'' : Av} {H H' H'' : Hp} (s : Step O H O' H') (t : Step O' H' O'' H'') : Step O H O'' H'' where
  sub := fun a q => by
    rcases t.sub a q with q | q
    · exact s.sub a q
    · refine .inr ?_
      cases e : H a with
      | none => rfl
      | some o => exact absurd q (s.dom a (by rw [e]; simp))
  kept := fun a o h e => t.kept a o (s.off h (by rw [e]; simp)) (s.kept a o h e)
  dom := fun a h => t.dom a (s.dom a h)

theorem At.step {O O' : Av} {H H' : Hp} (s : Step O H O' H') {a : Addr} {u : HO} (h : At O H a u) : At O' H' a u := by
  obtain ⟨h1, h2⟩ := h
  exact ⟨s.off h1 (by rw [h2]; simp), s.kept a _ h1 h2⟩

section
variable {w : Wd} {O O' : Av} {H H' : Hp}
mutual
theorem Rep.step (s : Step O H O' H') : ∀ (d : D) (v : V), Rep w O H d v → Rep w O' H' d v
  | .non, v, h => by simpa only [Rep] using h
  | .bl _, v, h => by simpa only [Rep] using h
  | .int _, v, h => by simpa only [Rep] using h
  | .str _, v, h => by simpa only [Rep] using h
  | .cls _, v, h => by simpa only [Rep] using h
  | .tup ds, v, h => by
    simp only [Rep] at h ⊢
    obtain ⟨a, vs, e, h1, h2⟩ := h
    exact ⟨a, vs, e, h1.imp (At.step s) id, RepL.step s ds vs h2⟩
  | .lst ds, v, h => by
    simp only [Rep] at h ⊢
    obtain ⟨a, vs, e, h1, h2⟩ := h
    exact ⟨a, vs, e, At.step s h1, RepL.step s ds vs h2⟩
  | .scr ds, v, h => by
    simp only [Rep] at h ⊢
    obtain ⟨a, vs, e, h1, h2⟩ := h
    exact ⟨a, vs, e, h1.imp (fun ⟨o, q⟩ => ⟨o, At.step s q⟩) id, RepL.step s ds vs h2⟩
  | .dct ks ds, v, h => by
    simp only [Rep] at h ⊢
    obtain ⟨a, kvs, e, h1, h2, h3⟩ := h
    exact ⟨a, kvs, e, At.step s h1, h2, RepL.step s ds _ h3⟩
  | .obj c fs, v, h => by
    simp only [Rep] at h ⊢
    obtain ⟨a, dx, vs, e, n, o1, o2, h1, h2, h3⟩ := h
    exact ⟨a, dx, vs, e, n, s.off o1 (by rw [h1]; simp), s.off o2 (by rw [h2]; simp), s.kept _ _ o1 h1, s.kept _ _ o2 h2, RepL.step s fs vs h3⟩
theorem RepL.step (s : Step O H O' H') : ∀ (ds : List D) (vs : List V), RepL w O H ds vs → RepL w O' H' ds vs
  | [], vs, h => by simpa only [RepL] using h
  | d :: ds, vs, h => by
    simp only [RepL] at h ⊢
    obtain ⟨v, vs', e, h1, h2⟩ := h
    exact ⟨v, vs', e, Rep.step s d v h1, RepL.step s ds vs' h2⟩
end
end

/-- slots of an instance -/
def RepO (w : Wd) (O : Av) (H : Hp) : List (Option D) → List (Option V) → Prop
  | [], vs => vs = []
  | none :: ds, vs => ∃ vs', vs = none :: vs' ∧ RepO w O H ds vs'
  | some d :: ds, vs => ∃ v vs', vs = some v :: vs' ∧ Rep w O H d v ∧ RepO w O H ds vs'
theorem RepO.step {w : Wd} {O O' : Av} {H H' : Hp} (s : Step O H O' H') : ∀ (ds : List (Option D)) (vs : List (Option V)), RepO w O H ds vs → RepO w O' H' ds vs
  | [], vs, h => h
  | none :: ds, vs, ⟨vs', e, h⟩ => ⟨vs', e, RepO.step s ds vs' h⟩
  | some d :: ds, vs, ⟨v, vs', e, h1, h2⟩ => ⟨v, vs', e, Rep.step s d v h1, RepO.step s ds vs' h2⟩
/-- a list, a dict that its holder alone may change; an instance that is being made -/
inductive Mu where
  | lst (ds : List D) | dct (ks vs : List D) | ins (c : Nat) (fs : List (Option D))
def Mu.is : Mu → D → Prop
  | .lst ds, d => d = .lst ds
  | .dct ks vs, d => d = .dct ks vs
  | .ins _ _, _ => False
def MuAt (w : Wd) (O : Av) (H : Hp) (a : Addr) : Mu → Prop
  | .lst ds => ∃ vs, H a = some (.lst vs) ∧ RepL w O H ds vs
  | .dct ks ds => ∃ kvs, H a = some (.dK kvs) ∧ keysD ks (kvs.map (·.1)) ∧ RepL w O H ds (kvs.map (·.2))
  | .ins c fs => ∃ dx vs, H a = some (SlX.SlO a (w.cl c) dx vs) ∧ dx ≠ a ∧ ¬ O dx ∧ H dx = some (.xd []) ∧ RepO w O H fs vs
theorem MuAt.step {w : Wd} {O O' : Av} {H H' : Hp} (s : Step O H O' H') {a : Addr} (e : H' a = H a) : ∀ {m : Mu}, MuAt w O H a m → MuAt w O' H' a m
  | .lst ds, ⟨vs, h1, h2⟩ => ⟨vs, e.trans h1, RepL.step s ds vs h2⟩
  | .dct ks ds, ⟨kvs, h1, h2, h3⟩ => ⟨kvs, e.trans h1, h2, RepL.step s ds _ h3⟩
  | .ins c fs, ⟨dx, vs, h1, h2, h3, h4, h5⟩ => ⟨dx, vs, e.trans h1, h2, s.off h3 (by rw [h4]; simp), s.kept _ _ h3 h4, RepO.step s fs vs h5⟩
theorem MuAt.some {w : Wd} {O : Av} {H : Hp} {a : Addr} : ∀ {m : Mu}, MuAt w O H a m → H a ≠ none
  | .lst _, ⟨_, h, _⟩ => by rw [h]; simp
  | .dct _ _, ⟨_, h, _⟩ => by rw [h]; simp
  | .ins _ _, ⟨_, _, h, _⟩ => by rw [h]; simp
/-- given away: it is data from then on -/
theorem MuAt.rep {w : Wd} {O : Av} {H : Hp} {a : Addr} (n : ¬ O a) : ∀ {m : Mu} {d : D}, m.is d → MuAt w O H a m → Rep w O H d (.ref a)
  | .lst ds, d, e, ⟨vs, h1, h2⟩ => by
    cases (show d = .lst ds from e)
    simp only [Rep]
    exact ⟨a, vs, rfl, ⟨n, h1⟩, h2⟩
  | .dct ks ds, d, e, ⟨kvs, h1, h2, h3⟩ => by
    cases (show d = .dct ks ds from e)
    simp only [Rep]
    exact ⟨a, kvs, rfl, ⟨n, h1⟩, h2, h3⟩
  | .ins _ _, _, e, _ => e.elim

/-! ### slots -/
inductive Sl where
  | non | val (d : D) | own (m : Mu) | io (m : Mu)
abbrev En := List Sl

/-- around a body: what is guarded from outside, what it may change there, the heap at its beginning -/
structure Fr where
  w : Wd
  B : Av
  Io : Nat → Av
  He : Hp

def SlAt (F : Fr) (O : Av) (H : Hp) (i : Nat) : Sl → Option (Option V) → Prop
  | .non, _ => True
  | .val d, o => ∃ v, o = some (some v) ∧ Rep F.w O H d v
  | .own m, o => ∃ a, o = some (some (.ref a)) ∧ O a ∧ F.He a = none ∧ MuAt F.w O H a m
  | .io m, o => ∃ a, o = some (some (.ref a)) ∧ F.Io i a ∧ MuAt F.w O H a m
def Sl.mu : Sl → Bool
  | .own _ => true
  | .io _ => true
  | _ => false
structure Rel (F : Fr) (O : Av) (ρ : En) (σ : St) (H : Hp) : Prop where
  len : ρ.length = σ.length
  b0 : ∀ a, F.B a → O a
  bh : ∀ a, F.B a → F.He a ≠ none
  ib : ∀ i a, F.Io i a → F.B a
  dom : ∀ a, O a → H a ≠ none
  doh : ∀ a, F.He a ≠ none → H a ≠ none
  keep : ∀ a o, F.He a = some o → (∀ i, ¬ F.Io i a) → H a = some o
  slot : ∀ (i : Nat) (s : Sl), ρ[i]? = some s → SlAt F O H i s (σ[i]?)
  dist : ∀ (i j : Nat) (s t : Sl), ρ[i]? = some s → ρ[j]? = some t → s.mu = true → t.mu = true → σ[i]? = σ[j]? → i = j
theorem Rel.fresh {F : Fr} {O : Av} {ρ : En} {σ : St} {H : Hp} (R : Rel F O ρ σ H) {a : Addr} (h : H a = none) : ¬ O a := fun q => R.dom a q h
theorem Rel.freshE {F : Fr} {O : Av} {ρ : En} {σ : St} {H : Hp} (R : Rel F O ρ σ H) {a : Addr} (h : H a = none) : F.He a = none := by
  cases e : F.He a with
  | none => rfl
  | some o => exact absurd h (R.doh a (by rw [e]; simp))

/-- guarded, too -/
def ins (O : Av) (a : Addr) : Av := fun b => O b ∨ b = a
/-- guarded no longer -/
def off (O : Av) (a : Addr) : Av := fun b => O b ∧ b ≠ a
/-- no slot holds it to be changed -/
def Apart (ρ : En) (σ : St) (a : Addr) : Prop := ∀ (i : Nat) (s : Sl), ρ[i]? = some s → s.mu = true → σ[i]? ≠ some (some (.ref a))
theorem off_step {O : Av} {H : Hp} {a : Addr} : Step O H (off O a) H := ⟨fun _ h => .inl h.1, fun _ _ _ h => h, fun _ h => h⟩
theorem Rel.release {F : Fr} {O : Av} {ρ : En} {σ : St} {H : Hp} (R : Rel F O ρ σ H) {a : Addr} (ap : Apart ρ σ a) (hb : ¬ F.B a) : Rel F (off O a) ρ σ H where
  len := R.len
  b0 := fun b h => ⟨R.b0 b h, fun e => hb (e ▸ h)⟩
  bh := R.bh
  ib := R.ib
  dom := fun b h => R.dom b h.1
  doh := R.doh
  keep := R.keep
  slot := fun i s h => by
    have q := R.slot i s h
    cases s with
    | non => trivial
    | val d =>
      obtain ⟨v, e, q⟩ := q
      exact ⟨v, e, Rep.step off_step d v q⟩
    | own m =>
      obtain ⟨b, e, q1, q2, q3⟩ := q
      exact ⟨b, e, ⟨q1, fun z => ap i _ h rfl (z ▸ e)⟩, q2, q3.step off_step rfl⟩
    | io m =>
      obtain ⟨b, e, q1, q2⟩ := q
      exact ⟨b, e, q1, q2.step off_step rfl⟩
  dist := R.dist

/-! ### results -/
/-- an error: its class, by number, and what it keeps -/
inductive Xc where
  | own (c : Nat) (fs : List (Str × D)) | ty (n : String)
inductive Rs (α : Type) where
  | ok (a : α) (ρ : En) | exc (x : Xc) (ρ : En) | stuck
def Rs.bind {α β : Type} (r : Rs α) (f : α → En → Rs β) : Rs β := match r with
  | .ok a ρ => f a ρ
  | .exc x ρ => .exc x ρ
  | .stuck => .stuck
/-- a value, and whether it is new and nobody else's -/
abbrev Vl := D × Bool
abbrev ME := En → Rs Vl

def VlAt (w : Wd) (σ : St) (H : Hp) (ρ' : En) (O' : Av) (H' : Hp) (v : V) (x : Vl) : Prop := match x.2 with
  | false => Rep w O' H' x.1 v
  | true => ∃ a m, v = .ref a ∧ H a = none ∧ O' a ∧ m.is x.1 ∧ MuAt w O' H' a m ∧ Apart ρ' σ a

def XcAt (w : Wd) (O : Av) (H : Hp) (cls : Value) (d : Option Addr) : Xc → Prop
  | .own c fs => cls = .ref (w.cl c) ∧ match fs with
    | [] => d = none
    | f :: fs => ∃ a vs, d = some a ∧ ¬ O a ∧ H a = some (.xd (((f :: fs).map (·.1)).zip vs)) ∧ RepL w O H ((f :: fs).map (·.2)) vs
  | .ty n => cls = .type n ∧ d = none

/-- what must hold behind a result; RA: how the machine's answer tells the result's -/
def Hold {α β : Type} (F : Fr) (W : WX) (O : Av) (σ : St) (H : Hp) (RA : En → Av → Hp → β → α → Prop) (Q : β → Hp → Prop) : Rs α → Prop
  | .ok a ρ' => ∀ O' H' b, Step O H O' H' → Rel F O' ρ' σ H' → RA ρ' O' H' b a → Q b H'
  | .exc x ρ' => ∀ O' H' cls d, Step O H O' H' → Rel F O' ρ' σ H' → XcAt F.w O' H' cls d x → W cls d σ H'
  | .stuck => False

theorem Hold.later {α β : Type} {F : Fr} {W : WX} {O O1 : Av} {σ : St} {H H1 : Hp} {RA RB : En → Av → Hp → β → α → Prop} {Q : β → Hp → Prop} (s : Step O H O1 H1) (m : ∀ ρ' O' H' b a, Step O1 H1 O' H' → RB ρ' O' H' b a → RA ρ' O' H' b a) :
    ∀ {r : Rs α}, Hold F W O σ H RA Q r → Hold F W O1 σ H1 RB Q r
  | .ok a ρ', h => fun O' H' b st R ra => h O' H' b (s.trans st) R (m ρ' O' H' b a st ra)
  | .exc x ρ', h => fun O' H' cls d st R xa => h O' H' cls d (s.trans st) R xa
  | .stuck, h => h

/-- a value's answer -/
def RV (F : Fr) (σ : St) (H : Hp) : En → Av → Hp → V → Vl → Prop := fun ρ' O' H' v x => VlAt F.w σ H ρ' O' H' v x
theorem Step.none_back {O O1 : Av} {H H1 : Hp} (s : Step O H O1 H1) {p : Addr} (e : H1 p = none) : H p = none := by
  cases q : H p with
  | none => rfl
  | some o => exact absurd e (s.dom p (by rw [q]; simp))
theorem VlAt.later {w : Wd} {σ : St} {ρ' : En} {O O1 : Av} {H H1 : Hp} (s : Step O H O1 H1) {O' : Av} {H' : Hp} {v : V} : ∀ {x : Vl}, VlAt w σ H1 ρ' O' H' v x → VlAt w σ H ρ' O' H' v x
  | (d, false), h => h
  | (d, true), ⟨p, m, e1, e2, e3⟩ => ⟨p, m, e1, s.none_back e2, e3⟩
theorem RV.later {F : Fr} {σ : St} {O : Av} {H : Hp} {O1 : Av} {H1 : Hp} (s : Step O H O1 H1) : ∀ ρ' O' H' (b : V) (a : Vl), Step O1 H1 O' H' → RV F σ H1 ρ' O' H' b a → RV F σ H ρ' O' H' b a := fun ρ' O' H' b a _ h => VlAt.later s h
theorem Hold.laterV {F : Fr} {W : WX} {O O1 : Av} {σ : St} {H H1 : Hp} {Q : VK} {r : Rs Vl} (h : Hold F W O σ H (RV F σ H) Q r) (s : Step O H O1 H1) : Hold F W O1 σ H1 (RV F σ H1) Q r := h.later s (RV.later s)
/-- given away -/
theorem VlAt.release {F : Fr} {σ : St} {ρ' : En} {O O' : Av} {H H' : Hp} {v : V} (st : Step O H O' H') (R : Rel F O' ρ' σ H') (dh : ∀ a, F.He a ≠ none → H a ≠ none) : ∀ {x : Vl}, VlAt F.w σ H ρ' O' H' v x →
    ∃ O1, Step O H O1 H' ∧ Rel F O1 ρ' σ H' ∧ Rep F.w O1 H' x.1 v ∧ Step O' H' O1 H'
  | (d, false), h => ⟨O', st, R, h, Step.refl _ _⟩
  | (d, true), ⟨a, m, e1, e2, e3, e4, e5, e6⟩ => by
    subst e1
    have hb : ¬ F.B a := fun q => dh a (R.bh a q) e2
    exact ⟨off O' a, st.trans off_step, R.release e6 hb, (e5.step off_step rfl).rep (fun q => q.2 rfl) e4, off_step⟩

/-- te does what m says -/
def Sim (w : Wd) (W : WX) (te : TE) (m : ME) : Prop := ∀ (F : Fr) (O : Av) (ρ : En) (σ : St) (H : Hp) (Q : VK), F.w = w → Rel F O ρ σ H → Hold F W O σ H (RV F σ H) Q (m ρ) → te σ H Q

/-- one after the other, the first one's value as it is -/
theorem Sim.bindF {w : Wd} {W : WX} {ta : TE} {ma : ME} (ha : Sim w W ta ma) {F : Fr} {O : Av} {ρ : En} {σ : St} {H : Hp} (hw : F.w = w) (R : Rel F O ρ σ H) {α β : Type} {RA : En → Av → Hp → β → α → Prop} {Q : β → Hp → Prop} {f : Vl → En → Rs α}
    (h : Hold F W O σ H RA Q ((ma ρ).bind f)) {k : V → Hp → Prop}
    (hk : ∀ (x : Vl) (v : V) (ρ1 : En) (O1 : Av) (H1 : Hp), Step O H O1 H1 → Rel F O1 ρ1 σ H1 → VlAt F.w σ H ρ1 O1 H1 v x → Hold F W O σ H RA Q (f x ρ1) → k v H1) : ta σ H k := by
  refine ha F O ρ σ H k hw R ?_
  cases e : ma ρ with
  | ok x ρ1 =>
    rw [e] at h
    exact fun O1 H1 v st R1 rv => hk x v ρ1 O1 H1 st R1 rv h
  | exc x ρ1 =>
    rw [e] at h
    exact fun O1 H1 cls d st R1 xa => h O1 H1 cls d st R1 xa
  | stuck =>
    rw [e] at h
    exact h
/-- .. as data -/
theorem Sim.bind {w : Wd} {W : WX} {ta : TE} {ma : ME} (ha : Sim w W ta ma) {F : Fr} {O : Av} {ρ : En} {σ : St} {H : Hp} (hw : F.w = w) (R : Rel F O ρ σ H) {α β : Type} {RA : En → Av → Hp → β → α → Prop} {Q : β → Hp → Prop} {f : Vl → En → Rs α}
    (h : Hold F W O σ H RA Q ((ma ρ).bind f)) {k : V → Hp → Prop}
    (hk : ∀ (x : Vl) (v : V) (ρ1 : En) (O1 : Av) (H1 : Hp), Step O H O1 H1 → Rel F O1 ρ1 σ H1 → Rep F.w O1 H1 x.1 v → Hold F W O σ H RA Q (f x ρ1) → k v H1) : ta σ H k :=
  ha.bindF hw R h fun x v ρ1 O1 H1 st R1 rv h1 => by
    obtain ⟨O2, s2, R2, r2, _⟩ := VlAt.release st R1 R.doh rv
    exact hk x v ρ1 O2 H1 s2 R2 r2 h1

/-- an expression's judgement: the machine runs as m says -/
def PM (X : Cx) (w : Wd) (W : WX) (e : Expr) (m : ME) : Prop := ∃ te, PE X e te ∧ Sim w W te m
end PM

namespace PM
open PySem L2

/-! ### the heap grows -/
def Grow (H H' : Hp) : Prop := ∀ a o, H a = some o → H' a = some o
theorem Grow.refl (H : Hp) : Grow H H := fun _ _ h => h
theorem Grow.trans {H H1 H2 : Hp} (a : Grow H H1) (b : Grow H1 H2) : Grow H H2 := fun x o h => b x o (a x o h)
theorem Grow.new {H : Hp} {p : Addr} {o : HO} (h : H p = none) : Grow H (upd H p o) := fun a u e => by
  rw [upd_ne (ne_of_none e h)]
  exact e
theorem Grow.dom {H H' : Hp} (g : Grow H H') {a : Addr} (h : H a ≠ none) : H' a ≠ none := by
  cases e : H a with
  | none => exact absurd e h
  | some o => rw [g a o e]; simp
theorem Grow.step {O : Av} {H H' : Hp} (g : Grow H H') : Step O H O H' := ⟨fun _ h => .inl h, fun a o _ e => g a o e, fun _ h => g.dom h⟩
theorem Grow.back {H H' : Hp} (g : Grow H H') {a : Addr} (h : H' a = none) : H a = none := by
  cases e : H a with
  | none => rfl
  | some o => rw [g a o e] at h; cases h
theorem MuAt.grow {w : Wd} {O : Av} {H H' : Hp} (g : Grow H H') {a : Addr} : ∀ {m : Mu}, MuAt w O H a m → MuAt w O H' a m
  | .lst ds, ⟨vs, h1, h2⟩ => ⟨vs, g _ _ h1, RepL.step g.step ds vs h2⟩
  | .dct ks ds, ⟨kvs, h1, h2, h3⟩ => ⟨kvs, g _ _ h1, h2, RepL.step g.step ds _ h3⟩
  | .ins c fs, ⟨dx, vs, h1, h2, h3, h4, h5⟩ => ⟨dx, vs, g _ _ h1, h2, h3, g _ _ h4, RepO.step g.step fs vs h5⟩
theorem SlAt.grow {F : Fr} {O : Av} {H H' : Hp} (g : Grow H H') : ∀ {i : Nat} {s : Sl} {o : Option (Option V)}, SlAt F O H i s o → SlAt F O H' i s o
  | _, .non, _, h => h
  | _, .val d, _, ⟨v, e, h⟩ => ⟨v, e, Rep.step g.step d v h⟩
  | _, .own m, _, ⟨a, e, h1, h2, h3⟩ => ⟨a, e, h1, h2, h3.grow g⟩
  | _, .io m, _, ⟨a, e, h1, h2⟩ => ⟨a, e, h1, h2.grow g⟩
theorem Rel.grow {F : Fr} {O : Av} {ρ : En} {σ : St} {H H' : Hp} (R : Rel F O ρ σ H) (g : Grow H H') : Rel F O ρ σ H' :=
  ⟨R.len, R.b0, R.bh, R.ib, fun a h => g.dom (R.dom a h), fun a h => g.dom (R.doh a h), fun a o h n => g a o (R.keep a o h n), fun i s h => (R.slot i s h).grow g, R.dist⟩

theorem Rel.guard {F : Fr} {O : Av} {ρ : En} {σ : St} {H H' : Hp} (R : Rel F O ρ σ H) (g : Grow H H') {a : Addr} (h : H a = none) (h' : H' a ≠ none) : Rel F (ins O a) ρ σ H' := by
  have st : Step O H (ins O a) H' := ⟨fun b q => q.elim .inl fun e => .inr (e ▸ h), fun b o _ e => g b o e, fun _ e => g.dom e⟩
  refine ⟨R.len, fun b q => .inl (R.b0 b q), R.bh, R.ib, fun b q => q.elim (fun q => g.dom (R.dom b q)) (fun e => e ▸ h'), fun b q => g.dom (R.doh b q), fun b o q n => g b o (R.keep b o q n), fun i s e => ?_, R.dist⟩
  have q := R.slot i s e
  cases s with
  | non => trivial
  | val d =>
    obtain ⟨v, e, q⟩ := q
    exact ⟨v, e, Rep.step st d v q⟩
  | own m =>
    obtain ⟨b, e, q1, q2, q3⟩ := q
    cases z : H b with
    | none => exact absurd z q3.some
    | some o => exact ⟨b, e, .inl q1, q2, q3.step st ((g b o z).trans z.symm)⟩
  | io m =>
    obtain ⟨b, e, q1, q3⟩ := q
    cases z : H b with
    | none => exact absurd z q3.some
    | some o => exact ⟨b, e, q1, q3.step st ((g b o z).trans z.symm)⟩
theorem Rel.apart {F : Fr} {O : Av} {ρ : En} {σ : St} {H : Hp} (R : Rel F O ρ σ H) {a : Addr} (h : H a = none) : Apart ρ σ a := fun i s e hm q => by
  have z := R.slot i s e
  cases s with
  | non => cases hm
  | val d => cases hm
  | own m =>
    obtain ⟨b, e, q1, q2, q3⟩ := z
    rw [q] at e
    cases e
    exact q3.some h
  | io m =>
    obtain ⟨b, e, q1, q3⟩ := z
    rw [q] at e
    cases e
    exact q3.some h

/-! ### what a value-level rule must tell -/
def GoAt (w : Wd) (O : Av) (H H' : Hp) (v : V) (z : Vl) : Prop := match z.2 with
  | false => Rep w O H' z.1 v
  | true => ∃ a m, v = .ref a ∧ H a = none ∧ m.is z.1 ∧ MuAt w (ins O a) H' a m
/-- the way on from a grown heap -/
def Go (w : Wd) (O : Av) (H : Hp) (z : Vl) (Q : VK) : Prop := ∀ v H', Grow H H' → GoAt w O H H' v z → Q v H'
theorem Go.val {w : Wd} {O : Av} {H : Hp} {d : D} {Q : VK} (g : Go w O H (d, false) Q) {v : V} (h : Rep w O H d v) : Q v H := g v H (Grow.refl H) h
theorem Go.later {w : Wd} {O : Av} {H H1 : Hp} {Q : VK} (s : Grow H H1) : ∀ {z : Vl}, Go w O H z Q → Go w O H1 z Q
  | (d, false), g => fun v H' g' h => g v H' (s.trans g') h
  | (d, true), g => fun v H' g' h => g v H' (s.trans g') (by
    obtain ⟨a, m, e1, e2, e3⟩ := h
    exact ⟨a, m, e1, s.back e2, e3⟩)
theorem ins_step {O : Av} {H H' : Hp} (g : Grow H H') {p : Addr} (hp : H p = none) : Step O H (ins O p) H' := ⟨fun b q => q.elim .inl fun e => .inr (e ▸ hp), fun b o _ e => g b o e, fun _ e => g.dom e⟩
/-- a new list, a new tuple -/
theorem Go.newL {w : Wd} {O : Av} {H : Hp} {ds : List D} {Q : VK} (g : Go w O H (.lst ds, true) Q) {vs : List V} (h : RepL w O H ds vs) {p : Addr} (hp : H p = none) : Q (.ref p) (upd H p (.lst vs)) :=
  g _ _ (Grow.new hp) ⟨p, .lst ds, rfl, hp, rfl, ⟨vs, upd_same, RepL.step (ins_step (Grow.new hp) hp) ds vs h⟩⟩
theorem Go.newT {w : Wd} {O : Av} {H : Hp} {ds : List D} {Q : VK} (g : Go w O H (.tup ds, false) Q) (dm : ∀ a, O a → H a ≠ none) {vs : List V} (h : RepL w O H ds vs) {p : Addr} (hp : H p = none) : Q (.ref p) (upd H p (.tup vs)) := by
  refine g _ _ (Grow.new hp) ?_
  show Rep w O _ (.tup ds) (.ref p)
  simp only [Rep]
  exact ⟨p, vs, rfl, .inl ⟨fun q => dm p q hp, upd_same⟩, RepL.step (Grow.new hp).step ds vs h⟩
def Dm (O : Av) (H : Hp) : Prop := ∀ a, O a → H a ≠ none
def Op2 (w : Wd) (r : R2) (f : D → D → Option Vl) : Prop := ∀ (O : Av) (H : Hp) (x y : D) (z : Vl) (vx vy : V) (Q : VK), Dm O H → f x y = some z → Rep w O H x vx → Rep w O H y vy → Go w O H z Q → r vx vy H Q
def Op1 (w : Wd) (r : V → Hp → VK → Prop) (f : D → Option Vl) : Prop := ∀ (O : Av) (H : Hp) (x : D) (z : Vl) (vx : V) (Q : VK), Dm O H → f x = some z → Rep w O H x vx → Go w O H z Q → r vx H Q
def OpN (w : Wd) (r : List V → Hp → VK → Prop) (f : List D → Option Vl) : Prop := ∀ (O : Av) (H : Hp) (xs : List D) (z : Vl) (vs : List V) (Q : VK), Dm O H → f xs = some z → RepL w O H xs vs → Go w O H z Q → r vs H Q
/-- a rule's end: the heap has grown -/
theorem Hold.go {F : Fr} {W : WX} {O O1 : Av} {σ : St} {H H1 : Hp} {ρ1 : En} {Q : VK} : ∀ {z : Vl}, Hold F W O σ H (RV F σ H) Q (.ok z ρ1) → Step O H O1 H1 → Rel F O1 ρ1 σ H1 → Go F.w O1 H1 z Q
  | (d, false), h, st, R => fun v H' g rv => h O1 H' v (st.trans g.step) (R.grow g) rv
  | (d, true), h, st, R => fun v H' g rv => by
    obtain ⟨a, m, e1, e2, e3, e4⟩ := rv
    exact h (ins O1 a) H' v (st.trans (ins_step g e2)) (R.guard g e2 e4.some) ⟨a, m, e1, st.none_back e2, .inr rfl, e3, e4, R.apart e2⟩

/-! ### the plain forms -/
def mC (d : D) : ME := fun ρ => .ok (d, false) ρ
def mVar (i : Nat) : ME := fun ρ => match ρ[i]? with
  | some (.val d) => .ok (d, false) ρ
  | _ => .stuck
def lift {α : Type} (o : Option α) (ρ : En) : Rs α := match o with
  | some z => .ok z ρ
  | none => .stuck
def mOp2 (f : D → D → Option Vl) (ma mb : ME) : ME := fun ρ => (ma ρ).bind fun x ρ1 => (mb ρ1).bind fun y ρ2 => lift (f x.1 y.1) ρ2
def mOp1 (f : D → Option Vl) (ma : ME) : ME := fun ρ => (ma ρ).bind fun x ρ1 => lift (f x.1) ρ1

section
variable {w : Wd} {W : WX} {X : Cx} {pos : Pos} {a b : Expr} {ma mb : ME} {ta tb : TE}
theorem sim_c {v : V} {d : D} (h : ∀ O H, Rep w O H d v) : Sim w W (tC v) (mC d) := fun F O ρ σ H Q e R hh => by
  subst e
  exact (hh.go (Step.refl O H) R).val (h O H)
theorem pm_int {i : Int} {j} : PM X w W (.Constant (.int i) j pos) (mC (.int i)) := ⟨_, pe_int, sim_c fun O H => by simp only [Rep]⟩
theorem pm_str {x : Str} {j} : PM X w W (.Constant (.str x) j pos) (mC (.str x)) := ⟨_, pe_str, sim_c fun O H => by simp only [Rep]⟩
theorem pm_bl {x : Bool} {j} : PM X w W (.Constant (.bool x) j pos) (mC (.bl x)) := ⟨_, pe_bl, sim_c fun O H => by simp only [Rep]⟩
theorem pm_non {j} : PM X w W (.Constant .none j pos) (mC .non) := ⟨_, pe_non, sim_c fun O H => by simp only [Rep]⟩
theorem pm_gint {x : Str} {i : Int} {t : Tok} (hg : Gl X x) (hm : X.mg x = some (.int i t)) (hd : (x == ("__debug__" : Str)) = false := by decide) : PM X w W (.Name x pos) (mC (.int i)) := ⟨_, pe_glob hg hm (v := .int i) ⟨t, rfl⟩ hd, sim_c fun O H => by simp only [Rep]⟩
theorem pm_gstr {x : Str} {i : Str} {t : Tok} (hg : Gl X x) (hm : X.mg x = some (.str i t)) (hd : (x == ("__debug__" : Str)) = false := by decide) : PM X w W (.Name x pos) (mC (.str i)) := ⟨_, pe_glob hg hm (v := .str i) ⟨t, rfl⟩ hd, sim_c fun O H => by simp only [Rep]⟩
theorem sim_var {i : Nat} : Sim w W (tVar i) (mVar i) := fun F O ρ σ H Q e R hh => by
  subst e
  unfold mVar at hh
  split at hh
  · rename_i d hd
    obtain ⟨v, e1, h1⟩ := R.slot i _ hd
    exact ⟨v, e1, (hh.go (Step.refl O H) R).val h1⟩
  · exact hh.elim
theorem pm_var (i : Nat) {x : Str} (hN : X.N[i]? = some x := by rfl) (hv : Vis X.env.scope x := by first | exact Or.inl rfl | exact Or.inr (Or.inl rfl) | exact Or.inr (Or.inr rfl)) (hd : (x == ("__debug__" : Str)) = false := by decide)
    (hcd : (x == ("__classdict__" : Str)) = false := by decide) : PM X w W (.Name x pos) (mVar i) := ⟨_, pv i hN hv hd hcd, sim_var⟩
theorem sim_op2 {r : R2} {f : D → D → Option Vl} (hl : Op2 w r f) (ha : Sim w W ta ma) (hb : Sim w W tb mb) : Sim w W (tOp r ta tb) (mOp2 f ma mb) := fun F O ρ σ H Q e R hh => by
  subst e
  refine ha.bind rfl R hh fun x v ρ1 O1 H1 st1 R1 rx h1 => ?_
  have h1' : Hold F W O1 σ H1 (RV F σ H1) Q ((mb ρ1).bind fun y ρ2 => lift (f x.1 y.1) ρ2) := h1.later st1 (RV.later st1)
  refine hb.bind rfl R1 h1' fun y u ρ2 O2 H2 st2 R2 ry h2 => ?_
  cases e : f x.1 y.1 with
  | none => rw [e] at h2; exact h2.elim
  | some z =>
    rw [e] at h2
    exact hl O2 H2 x.1 y.1 z v u Q R2.dom e (Rep.step st2 _ _ rx) ry (h2.go st2 R2)
theorem sim_op1 {r : V → Hp → VK → Prop} {f : D → Option Vl} (hl : Op1 w r f) (ha : Sim w W ta ma) : Sim w W (tUn r ta) (mOp1 f ma) := fun F O ρ σ H Q e R hh => by
  subst e
  refine ha.bind rfl R hh fun x v ρ1 O1 H1 st1 R1 rx h1 => ?_
  cases e : f x.1 with
  | none => rw [e] at h1; exact h1.elim
  | some z =>
    rw [e] at h1
    exact hl O1 H1 x.1 z v Q R1.dom e rx (h1.go st1 R1)
theorem pm_bin {op : Operator} {r : R2} {f : D → D → Option Vl} (ho : OpR X (binaryOp op) r) (hl : Op2 w r f) (ha : PM X w W a ma) (hb : PM X w W b mb) : PM X w W (.BinOp a op b pos) (mOp2 f ma mb) := by
  obtain ⟨ta, pa, sa⟩ := ha
  obtain ⟨tb, pb, sb⟩ := hb
  exact ⟨_, pe_op ho pa pb, sim_op2 hl sa sb⟩
theorem pm_un {op : UnaryOp} {r : V → Hp → VK → Prop} {f : D → Option Vl} (ho : UnR X (unaryOp op) r) (hl : Op1 w r f) (ha : PM X w W a ma) : PM X w W (.UnaryOp op a pos) (mOp1 f ma) := by
  obtain ⟨ta, pa, sa⟩ := ha
  exact ⟨_, pe_un ho pa, sim_op1 hl sa⟩
theorem pm_cmp {op : CmpOp} {r : R2} {f : D → D → Option Vl} (ho : OpR X (compareOp op) r) (hl : Op2 w r f) (ha : PM X w W a ma) (hb : PM X w W b mb) (hm : behindInMarks op b = false) : PM X w W (.Compare a [op] [b] pos) (mOp2 f ma mb) := by
  obtain ⟨ta, pa, sa⟩ := ha
  obtain ⟨tb, pb, sb⟩ := hb
  exact ⟨_, pe_cmpR ho pa pb hm, sim_op2 hl sa sb⟩
theorem pm_ix {r : R2} {f : D → D → Option Vl} (ho : IxR X r) (hl : Op2 w r f) (ha : PM X w W a ma) (hb : PM X w W b mb) (hs : PlainIx b) : PM X w W (.Subscript a b pos) (mOp2 f ma mb) := by
  obtain ⟨ta, pa, sa⟩ := ha
  obtain ⟨tb, pb, sb⟩ := hb
  exact ⟨_, pe_ix ho pa pb hs, sim_op2 hl sa sb⟩
end

/-! ### arguments -/
abbrev MA := En → Rs (List D)
def VlsAt (w : Wd) (ρ' : En) (O' : Av) (H' : Hp) (vs : List V) (xs : List D) : Prop := RepL w O' H' xs vs
def SimA (w : Wd) (W : WX) (ta : TA) (m : MA) : Prop := ∀ (F : Fr) (O : Av) (ρ : En) (σ : St) (H : Hp) (Q : List V → Hp → Prop), F.w = w → Rel F O ρ σ H → Hold F W O σ H (VlsAt F.w) Q (m ρ) → ta σ H Q
def PMA (X : Cx) (w : Wd) (W : WX) (es : List Expr) (m : MA) : Prop := ∃ t, PA X es t ∧ SimA w W t m
def mNil : MA := fun ρ => .ok [] ρ
def mCons (ma : ME) (mr : MA) : MA := fun ρ => (ma ρ).bind fun x ρ1 => (mr ρ1).bind fun xs ρ2 =>   .ok (x.1 :: xs) ρ2
theorem SimA.bind {w : Wd} {W : WX} {ta : TA} {ma : MA} (ha : SimA w W ta ma) {F : Fr} {O : Av} {ρ : En} {σ : St} {H : Hp} (hw : F.w = w) (R : Rel F O ρ σ H) {α β : Type} {RA : En → Av → Hp → β → α → Prop} {Q : β → Hp → Prop} {f : List D → En → Rs α}
    (h : Hold F W O σ H RA Q ((ma ρ).bind f)) {k : List V → Hp → Prop}
    (hk : ∀ (xs : List D) (vs : List V) (ρ1 : En) (O1 : Av) (H1 : Hp), Step O H O1 H1 → Rel F O1 ρ1 σ H1 → RepL F.w O1 H1 xs vs → Hold F W O σ H RA Q (f xs ρ1) → k vs H1) : ta σ H k := by
  refine ha F O ρ σ H k hw R ?_
  cases e : ma ρ with
  | ok x ρ1 =>
    rw [e] at h
    exact fun O1 H1 v st R1 rv => hk x v ρ1 O1 H1 st R1 rv h
  | exc x ρ1 =>
    rw [e] at h
    exact fun O1 H1 cls d st R1 xa => h O1 H1 cls d st R1 xa
  | stuck =>
    rw [e] at h
    exact h
def mCall (f : List D → Option Vl) (ma : MA) : ME := fun ρ => (ma ρ).bind fun xs ρ1 => lift (f xs) ρ1
section
variable {w : Wd} {W : WX} {X : Cx} {pos p : Pos} {e : Expr} {es : List Expr} {ma : ME} {mr : MA} {ta : TE} {tr : TA}
theorem sima_nil : SimA w W tNil mNil := fun F O ρ σ H Q e R hh => hh O H [] (Step.refl O H) R (by simp [VlsAt, RepL])
theorem sima_cons (ha : Sim w W ta ma) (hr : SimA w W tr mr) : SimA w W (tCons ta tr) (mCons ma mr) := fun F O ρ σ H Q e R hh => by
  subst e
  refine ha.bind rfl R hh fun x v ρ1 O1 H1 st1 R1 rx h1 => ?_
  refine hr.bind rfl R1 (h1.later st1 (RB := VlsAt F.w) fun _ _ _ _ _ _ q => q) fun xs vs ρ2 O2 H2 st2 R2 rs h2 => ?_
  refine h2 O2 H2 (v :: vs) st2 R2 ?_
  show RepL _ _ _ (x.1 :: xs) (v :: vs)
  simp only [RepL]
  exact ⟨v, vs, rfl, Rep.step st2 _ _ rx, rs⟩
theorem pma_nil : PMA X w W [] mNil := ⟨_, pa_nil, sima_nil⟩
theorem pma_cons (ha : PM X w W e ma) (hr : PMA X w W es mr) (hs : starEach (e :: es) X.env = (false, eval e X.env) :: starEach es X.env := by rfl) : PMA X w W (e :: es) (mCons ma mr) := by
  obtain ⟨ta, pa, sa⟩ := ha
  obtain ⟨tr, pr, sr⟩ := hr
  exact ⟨_, pa_cons pa pr hs, sima_cons sa sr⟩
theorem sim_call {r : List V → Hp → VK → Prop} {f : List D → Option Vl} (hl : OpN w r f) (ha : SimA w W tr mr) : Sim w W (tCB r tr) (mCall f mr) := fun F O ρ σ H Q e R hh => by
  subst e
  refine ha.bind rfl R hh fun xs vs ρ1 O1 H1 st1 R1 rs h1 => ?_
  cases e : f xs with
  | none => rw [e] at h1; exact h1.elim
  | some z =>
    rw [e] at h1
    exact hl O1 H1 _ z vs Q R1.dom e rs (h1.go st1 R1)
theorem pm_callB {id : String} {x : Str} {r : List V → Hp → VK → Prop} {f : List D → Option Vl} (hc : CallR X (.builtin id) r) (hl : OpN w r f) (hg : Gl X x) (hm : X.mg x = none) (hv : bootBuiltins x = some (.builtin id)) (ha : PMA X w W (e :: es) mr) (hn : x ≠ "__name__" := by decide) (hdb : (x == ("__debug__" : Str)) = false := by decide)
    (he : starEach (e :: es) X.env = (false, eval e X.env) :: starEach es X.env := by rfl) (hpl : (backTo pos (starEach es X.env)).any (·.1) = false := by rfl) : PM X w W (.Call (.Name x p) (e :: es) [] pos) (mCall f mr) := by
  obtain ⟨tr, pr, sr⟩ := ha
  exact ⟨_, pe_callB hc hg hm hv pr hn hdb he hpl, sim_call hl sr⟩
theorem pm_callTy {T : String} {x : Str} {r : List V → Hp → VK → Prop} {f : List D → Option Vl} (hc : CallR X (.type T) r) (hl : OpN w r f) (hg : Gl X x) (hm : X.mg x = none) (hv : bootBuiltins x = some (.type T)) (ha : PMA X w W (e :: es) mr) (hn : x ≠ "__name__" := by decide) (hdb : (x == ("__debug__" : Str)) = false := by decide)
    (he : starEach (e :: es) X.env = (false, eval e X.env) :: starEach es X.env := by rfl) (hpl : (backTo pos (starEach es X.env)).any (·.1) = false := by rfl) : PM X w W (.Call (.Name x p) (e :: es) [] pos) (mCall f mr) := by
  obtain ⟨tr, pr, sr⟩ := ha
  exact ⟨_, pe_callTy hc hg hm hv pr hn hdb he hpl, sim_call hl sr⟩
end
end PM

namespace PM
open PySem L2

/-! ### tests -/
abbrev MT := En → Rs Bool
def RBl : En → Av → Hp → Bool → Bool → Prop := fun _ _ _ b a => b = a
def SimT (w : Wd) (W : WX) (tt : TT) (m : MT) : Prop := ∀ (F : Fr) (O : Av) (ρ : En) (σ : St) (H : Hp) (Q : Bool → Hp → Prop), F.w = w → Rel F O ρ σ H → Hold F W O σ H RBl Q (m ρ) → tt σ H Q
def PMT (X : Cx) (w : Wd) (W : WX) (e : Expr) (m : MT) : Prop := ∃ t, PT X e t ∧ SimT w W t m
def PMW (X : Cx) (w : Wd) (W : WX) (e : Expr) (m : MT) : Prop := ∃ t, PW X e t ∧ SimT w W t m
theorem SimT.bind {w : Wd} {W : WX} {ta : TT} {ma : MT} (ha : SimT w W ta ma) {F : Fr} {O : Av} {ρ : En} {σ : St} {H : Hp} (hw : F.w = w) (R : Rel F O ρ σ H) {α β : Type} {RA : En → Av → Hp → β → α → Prop} {Q : β → Hp → Prop} {f : Bool → En → Rs α}
    (h : Hold F W O σ H RA Q ((ma ρ).bind f)) {k : Bool → Hp → Prop}
    (hk : ∀ (x : Bool) (ρ1 : En) (O1 : Av) (H1 : Hp), Step O H O1 H1 → Rel F O1 ρ1 σ H1 → Hold F W O σ H RA Q (f x ρ1) → k x H1) : ta σ H k := by
  refine ha F O ρ σ H k hw R ?_
  cases e : ma ρ with
  | ok x ρ1 =>
    rw [e] at h
    intro O1 H1 v st R1 rv
    have rv : v = x := rv
    subst rv
    exact hk v ρ1 O1 H1 st R1 h
  | exc x ρ1 =>
    rw [e] at h
    exact fun O1 H1 cls d st R1 xa => h O1 H1 cls d st R1 xa
  | stuck =>
    rw [e] at h
    exact h
def asB : D → Option Bool
  | .bl b => some b
  | _ => none
def mTest (m : ME) : MT := fun ρ => (m ρ).bind fun x ρ1 => lift (asB x.1) ρ1
def mAnd (a b : MT) : MT := fun ρ => (a ρ).bind fun x ρ1 => if x = true then b ρ1 else .ok false ρ1
def mOr (a b : MT) : MT := fun ρ => (a ρ).bind fun x ρ1 => if x = true then .ok true ρ1 else b ρ1
def mNot (a : MT) : MT := fun ρ => (a ρ).bind fun x ρ1 => .ok (!x) ρ1
def mIf (t : MT) (a b : ME) : ME := fun ρ => (t ρ).bind fun x ρ1 => if x = true then a ρ1 else b ρ1
/-- .. as values -/
def mAndV (a b : ME) : ME := fun ρ => (a ρ).bind fun x ρ1 => match asB x.1 with
  | some true => b ρ1
  | some false => .ok (.bl false, false) ρ1
  | none => .stuck
def mOrV (a b : ME) : ME := fun ρ => (a ρ).bind fun x ρ1 => match asB x.1 with
  | some true => .ok (.bl true, false) ρ1
  | some false => b ρ1
  | none => .stuck
def notD (d : D) : Option Vl := (asB d).map fun b => (.bl (!b), false)
def mNotV (a : ME) : ME := mOp1 notD a
/-- a op b op' c -/
def mChain (f g : D → D → Option Vl) (ma mb mc : ME) : ME := fun ρ => (ma ρ).bind fun x ρ1 => (mb ρ1).bind fun y ρ2 => match f x.1 y.1 with
  | some (.bl true, false) => (mc ρ2).bind fun z ρ3 => lift (g y.1 z.1) ρ3
  | some (.bl false, false) => .ok (.bl false, false) ρ2
  | _ => .stuck
section
variable {w : Wd} {W : WX} {X : Cx} {pos : Pos} {a b c : Expr} {ma mb mc : ME} {ta tb tc : TE} {tt uu : TT} {mt mu : MT} {rest : List Expr}
theorem asB_some {d : D} {b : Bool} (h : asB d = some b) : d = .bl b := by
  cases d <;> simp [asB] at h
  rw [h]
theorem rep_bl {O : Av} {H : Hp} {b : Bool} {v : V} (h : Rep w O H (.bl b) v) : v = .bl b := by simpa only [Rep] using h
theorem simt_test (ha : Sim w W ta ma) : SimT w W (tB ta) (mTest ma) := fun F O ρ σ H Q e R hh => by
  subst e
  refine ha.bind rfl R hh fun x v ρ1 O1 H1 st1 R1 rx h1 => ?_
  cases e : asB x.1 with
  | none => rw [e] at h1; exact h1.elim
  | some b =>
    rw [e] at h1
    rw [asB_some e] at rx
    exact ⟨b, rep_bl rx, h1 O1 H1 b st1 R1 rfl⟩
theorem pmt_val (ha : PM X w W a ma) (he : ∀ whole, isTrue a X.env whole = (do let v ← whole; standAt a.pos; holding [v] (truthy v)) := by intro _; rfl) : PMT X w W a (mTest ma) := by
  obtain ⟨ta, pa, sa⟩ := ha
  exact ⟨_, pt_val pa he, simt_test sa⟩
theorem pmt_cmp {op : CmpOp} {r : R2} {f : D → D → Option Vl} (ho : OpR X (compareOp op) r) (hl : Op2 w r f) (ha : PM X w W a ma) (hb : PM X w W b mb) (hm : behindInMarks op b = false) : PMT X w W (.Compare a [op] [b] pos) (mTest (mOp2 f ma mb)) := by
  obtain ⟨ta, pa, sa⟩ := ha
  obtain ⟨tb, pb, sb⟩ := hb
  exact ⟨_, pt_cmpR ho pa pb hm, simt_test (sim_op2 hl sa sb)⟩
theorem simt_and (ha : SimT w W tt mt) (hb : SimT w W uu mu) : SimT w W (tAnd tt uu) (mAnd mt mu) := fun F O ρ σ H Q e R hh => by
  subst e
  refine ha.bind rfl R hh fun x ρ1 O1 H1 st1 R1 h1 => ?_
  cases x with
  | true => exact iteT (hb F O1 ρ1 σ H1 Q rfl R1 (h1.later st1 fun _ _ _ _ _ _ q => q))
  | false => exact iteF (h1 O1 H1 false st1 R1 rfl)
theorem simt_or (ha : SimT w W tt mt) (hb : SimT w W uu mu) : SimT w W (tOr tt uu) (mOr mt mu) := fun F O ρ σ H Q e R hh => by
  subst e
  refine ha.bind rfl R hh fun x ρ1 O1 H1 st1 R1 h1 => ?_
  cases x with
  | true => exact iteT (h1 O1 H1 true st1 R1 rfl)
  | false => exact iteF (hb F O1 ρ1 σ H1 Q rfl R1 (h1.later st1 fun _ _ _ _ _ _ q => q))
theorem simt_not (ha : SimT w W tt mt) : SimT w W (tNot tt) (mNot mt) := fun F O ρ σ H Q e R hh => by
  subst e
  refine ha.bind rfl R hh fun x ρ1 O1 H1 st1 R1 h1 => ?_
  exact h1 O1 H1 (!x) st1 R1 rfl
theorem pmw_and1 (ha : PMT X w W a mt) : PMW X w W (.BoolOp .And [a] pos) mt := by
  obtain ⟨ta, pa, sa⟩ := ha
  exact ⟨_, pw_and1 pa, sa⟩
theorem pmw_or1 (ha : PMT X w W a mt) : PMW X w W (.BoolOp .Or [a] pos) mt := by
  obtain ⟨ta, pa, sa⟩ := ha
  exact ⟨_, pw_or1 pa, sa⟩
theorem pmw_and (ha : PMT X w W a mt) (hb : PMW X w W (.BoolOp .And (b :: rest) pos) mu) : PMW X w W (.BoolOp .And (a :: b :: rest) pos) (mAnd mt mu) := by
  obtain ⟨ta, pa, sa⟩ := ha
  obtain ⟨tb, pb, sb⟩ := hb
  exact ⟨_, pw_and pa pb, simt_and sa sb⟩
theorem pmw_or (ha : PMT X w W a mt) (hb : PMW X w W (.BoolOp .Or (b :: rest) pos) mu) : PMW X w W (.BoolOp .Or (a :: b :: rest) pos) (mOr mt mu) := by
  obtain ⟨ta, pa, sa⟩ := ha
  obtain ⟨tb, pb, sb⟩ := hb
  exact ⟨_, pw_or pa pb, simt_or sa sb⟩
theorem PMW.pt (h : PMW X w W a mt) : PMT X w W a mt := by
  obtain ⟨t, p, s⟩ := h
  exact ⟨t, p.pt, s⟩
theorem pmt_not (ha : PMT X w W a mt) : PMT X w W (.UnaryOp .Not a pos) (mNot mt) := by
  obtain ⟨ta, pa, sa⟩ := ha
  exact ⟨_, pt_not pa, simt_not sa⟩
theorem sim_if (ht : SimT w W tt mt) (ha : Sim w W ta ma) (hb : Sim w W tb mb) : Sim w W (tIf tt ta tb) (mIf mt ma mb) := fun F O ρ σ H Q e R hh => by
  subst e
  refine ht.bind rfl R hh fun x ρ1 O1 H1 st1 R1 h1 => ?_
  cases x with
  | true => exact iteT (ha F O1 ρ1 σ H1 Q rfl R1 (h1.laterV st1))
  | false => exact iteF (hb F O1 ρ1 σ H1 Q rfl R1 (h1.laterV st1))
theorem pm_if (ht : PMT X w W c mt) (ha : PM X w W a ma) (hb : PM X w W b mb) : PM X w W (.IfExp c a b pos) (mIf mt ma mb) := by
  obtain ⟨tt, pt, st⟩ := ht
  obtain ⟨ta, pa, sa⟩ := ha
  obtain ⟨tb, pb, sb⟩ := hb
  exact ⟨_, pe_ifExp pt pa pb, sim_if st sa sb⟩
theorem Hold.bl {F : Fr} {W : WX} {O O1 : Av} {σ : St} {H H1 : Hp} {ρ1 : En} {Q : VK} {b : Bool} (h : Hold F W O σ H (RV F σ H) Q (.ok (.bl b, false) ρ1)) (st : Step O H O1 H1) (R : Rel F O1 ρ1 σ H1) : Q (.bl b) H1 :=
  (h.go st R).val (by simp only [Rep])
theorem sim_andV (ha : Sim w W ta ma) (hb : Sim w W tb mb) : Sim w W (tAndV ta tb) (mAndV ma mb) := fun F O ρ σ H Q e R hh => by
  subst e
  refine ha.bind rfl R hh fun x v ρ1 O1 H1 st1 R1 rx h1 => ?_
  cases e : asB x.1 with
  | none => rw [e] at h1; exact h1.elim
  | some c =>
    rw [e] at h1
    rw [asB_some e] at rx
    refine ⟨c, rep_bl rx, ?_⟩
    cases c with
    | true => exact iteT (hb F O1 ρ1 σ H1 Q rfl R1 (h1.laterV st1))
    | false => exact iteF (h1.bl st1 R1)
theorem sim_orV (ha : Sim w W ta ma) (hb : Sim w W tb mb) : Sim w W (tOrV ta tb) (mOrV ma mb) := fun F O ρ σ H Q e R hh => by
  subst e
  refine ha.bind rfl R hh fun x v ρ1 O1 H1 st1 R1 rx h1 => ?_
  cases e : asB x.1 with
  | none => rw [e] at h1; exact h1.elim
  | some c =>
    rw [e] at h1
    rw [asB_some e] at rx
    refine ⟨c, rep_bl rx, ?_⟩
    cases c with
    | true => exact iteT (h1.bl st1 R1)
    | false => exact iteF (hb F O1 ρ1 σ H1 Q rfl R1 (h1.laterV st1))
theorem sim_notV (ha : Sim w W ta ma) : Sim w W (tNotV ta) (mNotV ma) := fun F O ρ σ H Q e R hh => by
  subst e
  refine ha.bind rfl R hh fun x v ρ1 O1 H1 st1 R1 rx h1 => ?_
  unfold notD at h1
  cases e : asB x.1 with
  | none => rw [e] at h1; exact h1.elim
  | some c =>
    rw [e] at h1
    rw [asB_some e] at rx
    exact ⟨c, rep_bl rx, Hold.bl h1 st1 R1⟩
theorem pm_one {op} (ha : PM X w W a ma) : PM X w W (.BoolOp op [a] pos) ma := by
  obtain ⟨ta, pa, sa⟩ := ha
  exact ⟨_, pe_one pa, sa⟩
theorem pm_and (ha : PM X w W a ma) (hb : PM X w W (.BoolOp .And (b :: rest) pos) mb) : PM X w W (.BoolOp .And (a :: b :: rest) pos) (mAndV ma mb) := by
  obtain ⟨ta, pa, sa⟩ := ha
  obtain ⟨tb, pb, sb⟩ := hb
  exact ⟨_, pe_and pa pb, sim_andV sa sb⟩
theorem pm_or (ha : PM X w W a ma) (hb : PM X w W (.BoolOp .Or (b :: rest) pos) mb) : PM X w W (.BoolOp .Or (a :: b :: rest) pos) (mOrV ma mb) := by
  obtain ⟨ta, pa, sa⟩ := ha
  obtain ⟨tb, pb, sb⟩ := hb
  exact ⟨_, pe_or pa pb, sim_orV sa sb⟩
theorem pm_not (ha : PM X w W a ma) : PM X w W (.UnaryOp .Not a pos) (mNotV ma) := by
  obtain ⟨ta, pa, sa⟩ := ha
  exact ⟨_, pe_not pa, sim_notV sa⟩
theorem sim_chain {r r' : R2} {f g : D → D → Option Vl} (hl : Op2 w r f) (hl' : Op2 w r' g) (ha : Sim w W ta ma) (hb : Sim w W tb mb) (hc : Sim w W tc mc) : Sim w W (tChain r r' ta tb tc) (mChain f g ma mb mc) := fun F O ρ σ H Q e R hh => by
  subst e
  refine ha.bind rfl R hh fun x v ρ1 O1 H1 st1 R1 rx h1 => ?_
  refine hb.bind rfl R1 (h1.laterV st1) fun y u ρ2 O2 H2 st2 R2 ry h2 => ?_
  have fin : ∀ k, f x.1 y.1 = some (.bl k, false) → ((k = true → ∀ H3, Grow H2 H3 → tc σ H3 fun w' H4 => r' u w' H4 Q) ∧ (k = false → ∀ H3, Grow H2 H3 → Q (.bl false) H3)) → r v u H2 fun z H3 => ∃ k, z = .bl k ∧ (if k = true then tc σ H3 fun w' H4 => r' u w' H4 Q else Q (.bl false) H3) := fun k e kk =>
    hl O2 H2 x.1 y.1 _ v u _ R2.dom e (Rep.step st2 _ _ rx) ry fun z H3 gr gv => by
      refine ⟨k, rep_bl (w := F.w) (O := O2) (H := H3) gv, ?_⟩
      cases k with
      | true => exact iteT (kk.1 rfl H3 gr)
      | false => exact iteF (kk.2 rfl H3 gr)
  split at h2
  · rename_i e
    refine fin true e ⟨fun _ H3 gr => ?_, fun q => by cases q⟩
    refine hc.bind rfl (R2.grow gr) (h2.laterV (st2.trans gr.step)) fun z u' ρ3 O3 H4 st3 R3 rz h3 => ?_
    cases e : g y.1 z.1 with
    | none => rw [e] at h3; exact h3.elim
    | some zz =>
      rw [e] at h3
      exact hl' O3 H4 y.1 z.1 zz u u' Q R3.dom e (Rep.step (gr.step.trans st3) _ _ ry) rz (h3.go st3 R3)
  · rename_i e
    exact fin false e ⟨fun q => (by cases q), fun _ H3 gr => h2.bl (st2.trans gr.step) (R2.grow gr)⟩
  · exact h2.elim
theorem pm_chain {op op' : CmpOp} {r r' : R2} {f g : D → D → Option Vl} (ho : OpR X (compareOp op) r) (ho' : OpR X (compareOp op') r') (hl : Op2 w r f) (hl' : Op2 w r' g) (ha : PM X w W a ma) (hb : PM X w W b mb) (hc : PM X w W c mc)
    (hm : lastMarks [op, op'] [b, c] = false := by with_unfolding_all rfl) : PM X w W (.Compare a [op, op'] [b, c] pos) (mChain f g ma mb mc) := by
  obtain ⟨ta, pa, sa⟩ := ha
  obtain ⟨tb, pb, sb⟩ := hb
  obtain ⟨tc, pc, sc⟩ := hc
  exact ⟨_, pe_chain ho ho' pa pb pc hm, sim_chain hl hl' sa sb sc⟩
theorem pmt_chain {op op' : CmpOp} {r r' : R2} {f g : D → D → Option Vl} (ho : OpR X (compareOp op) r) (ho' : OpR X (compareOp op') r') (hl : Op2 w r f) (hl' : Op2 w r' g) (ha : PM X w W a ma) (hb : PM X w W b mb) (hc : PM X w W c mc)
    (hm : lastMarks [op, op'] [b, c] = false := by with_unfolding_all rfl) : PMT X w W (.Compare a [op, op'] [b, c] pos) (mTest (mChain f g ma mb mc)) := by
  obtain ⟨ta, pa, sa⟩ := ha
  obtain ⟨tb, pb, sb⟩ := hb
  obtain ⟨tc, pc, sc⟩ := hc
  exact ⟨_, pt_chain ho ho' pa pb pc hm, simt_test (sim_chain hl hl' sa sb sc)⟩

/-! ### displays -/
def mTup (ma : MA) : ME := fun ρ => (ma ρ).bind fun xs ρ1 => if xs.length ≤ sizeLine then .ok (.tup xs, false) ρ1 else .stuck
def mLst (ma : MA) : ME := fun ρ => (ma ρ).bind fun xs ρ1 => if xs.length ≤ sizeLine then .ok (.lst xs, true) ρ1 else .stuck
theorem RepL.length {O : Av} {H : Hp} : ∀ {ds : List D} {vs : List V}, RepL w O H ds vs → vs.length = ds.length
  | [], vs, h => by
    simp only [RepL] at h
    rw [h] <;> rfl
  | d :: ds, vs, h => by
    simp only [RepL] at h
    obtain ⟨v, vs', e, _, h2⟩ := h
    rw [e]
    simp [RepL.length h2]
theorem pm_tup {es : List Expr} {k} {mr : MA} (h : PMA X w W es mr) : PM X w W (.Tuple es k pos) (mTup mr) := by
  obtain ⟨t, p, s⟩ := h
  refine ⟨_, pe_tup p, fun F O ρ σ H Q e R hh => ?_⟩
  subst e
  refine s.bind rfl R hh fun xs vs ρ1 O1 H1 st1 R1 rs h1 => ?_
  split at h1
  · rename_i hz
    exact ⟨by rw [rs.length]; exact hz, fun p hp => (h1.go st1 R1).newT R1.dom rs hp⟩
  · exact h1.elim
theorem pm_lst {es : List Expr} {mr : MA} (h : PMA X w W es mr) : PM X w W (.List es pos) (mLst mr) := by
  obtain ⟨t, p, s⟩ := h
  refine ⟨_, pe_lst p, fun F O ρ σ H Q e R hh => ?_⟩
  subst e
  refine s.bind rfl R hh fun xs vs ρ1 O1 H1 st1 R1 rs h1 => ?_
  split at h1
  · rename_i hz
    exact ⟨by rw [rs.length]; exact hz, fun p hp => (h1.go st1 R1).newL rs hp⟩
  · exact h1.elim
end
end PM

namespace PM
open PySem L2

/-! ### slots change -/
def notIo : Option Sl → Bool
  | some (.io _) => false
  | some _ => true
  | none => false
theorem get_set {α : Type} {l : List α} {i j : Nat} {x y : α} (h : (l.set i x)[j]? = some y) : (i = j ∧ y = x) ∨ (i ≠ j ∧ l[j]? = some y) := by
  by_cases e : i = j
  · subst e
    rw [List.getElem?_set_self'] at h
    cases q : l[i]? with
    | none => rw [q] at h; cases h
    | some z => rw [q] at h; cases h; exact .inl ⟨rfl, rfl⟩
  · rw [List.getElem?_set_ne e] at h
    exact .inr ⟨e, h⟩
theorem lt_of_get {α : Type} {l : List α} {i : Nat} {x : α} (h : l[i]? = some x) : i < l.length := (List.getElem?_eq_some_iff.mp h).1
section
variable {F : Fr} {O : Av} {ρ : En} {σ : St} {H : Hp}
theorem Rel.setV (R : Rel F O ρ σ H) {i : Nat} {d : D} {v : V} (h : Rep F.w O H d v) (hi : notIo (ρ[i]?) = true) : Rel F O (ρ.set i (.val d)) (σ.set i (some v)) H := by
  have hl : i < ρ.length := by
    cases e : ρ[i]? with
    | none => rw [e] at hi; cases hi
    | some s => exact lt_of_get e
  have hs : i < σ.length := by rw [← R.len]; exact hl
  refine ⟨by simp [R.len], R.b0, R.bh, R.ib, R.dom, R.doh, R.keep, fun j s e => ?_, fun j k s t e1 e2 m1 m2 q => ?_⟩
  · rcases get_set e with ⟨e1, e2⟩ | ⟨e1, e2⟩
    · subst e1
      subst e2
      exact ⟨v, List.getElem?_set_self hs, h⟩
    · rw [List.getElem?_set_ne e1]
      exact R.slot j s e2
  · rcases get_set e1 with ⟨a1, a2⟩ | ⟨a1, a2⟩
    · subst a2; cases m1
    · rcases get_set e2 with ⟨b1, b2⟩ | ⟨b1, b2⟩
      · subst b2; cases m2
      · rw [List.getElem?_set_ne a1, List.getElem?_set_ne b1] at q
        exact R.dist j k s t a2 b2 m1 m2 q
theorem Rel.setO (R : Rel F O ρ σ H) {i : Nat} {m : Mu} {a : Addr} (h : MuAt F.w O H a m) (ho : O a) (he : F.He a = none) (ap : Apart ρ σ a) (hi : notIo (ρ[i]?) = true) : Rel F O (ρ.set i (.own m)) (σ.set i (some (.ref a))) H := by
  have hl : i < ρ.length := by
    cases e : ρ[i]? with
    | none => rw [e] at hi; cases hi
    | some s => exact lt_of_get e
  have hs : i < σ.length := by rw [← R.len]; exact hl
  refine ⟨by simp [R.len], R.b0, R.bh, R.ib, R.dom, R.doh, R.keep, fun j s e => ?_, fun j k s t e1 e2 m1 m2 q => ?_⟩
  · rcases get_set e with ⟨e1, e2⟩ | ⟨e1, e2⟩
    · subst e1
      subst e2
      exact ⟨a, List.getElem?_set_self hs, ho, he, h⟩
    · rw [List.getElem?_set_ne e1]
      exact R.slot j s e2
  · rcases get_set e1 with ⟨a1, a2⟩ | ⟨a1, a2⟩
    · rcases get_set e2 with ⟨b1, b2⟩ | ⟨b1, b2⟩
      · exact a1.symm.trans b1
      · subst a1
        rw [List.getElem?_set_self hs, List.getElem?_set_ne b1] at q
        exact absurd q.symm (ap k t b2 m2)
    · rcases get_set e2 with ⟨b1, b2⟩ | ⟨b1, b2⟩
      · subst b1
        rw [List.getElem?_set_self hs, List.getElem?_set_ne a1] at q
        exact absurd q (ap j s a2 m1)
      · rw [List.getElem?_set_ne a1, List.getElem?_set_ne b1] at q
        exact R.dist j k s t a2 b2 m1 m2 q
/-- a slot is emptied -/
theorem Rel.setN (R : Rel F O ρ σ H) {i : Nat} : Rel F O (ρ.set i .non) σ H := by
  refine ⟨by simp [R.len], R.b0, R.bh, R.ib, R.dom, R.doh, R.keep, fun j s e => ?_, fun j k s t e1 e2 m1 m2 q => ?_⟩
  · rcases get_set e with ⟨e1, e2⟩ | ⟨e1, e2⟩
    · subst e2
      trivial
    · exact R.slot j s e2
  · rcases get_set e1 with ⟨a1, a2⟩ | ⟨a1, a2⟩
    · subst a2; cases m1
    · rcases get_set e2 with ⟨b1, b2⟩ | ⟨b1, b2⟩
      · subst b2; cases m2
      · exact R.dist j k s t a2 b2 m1 m2 q
/-- the content of a slot -/
def Sl.get : Sl → Option Mu
  | .own m => some m
  | .io m => some m
  | _ => none
def Sl.put : Sl → Mu → Sl
  | .own _, m => .own m
  | .io _, m => .io m
  | s, _ => s
theorem Rel.muAt (R : Rel F O ρ σ H) {i : Nat} {s : Sl} {m : Mu} (e : ρ[i]? = some s) (h : s.get = some m) : ∃ a, σ[i]? = some (some (.ref a)) ∧ O a ∧ MuAt F.w O H a m := by
  have q := R.slot i s e
  cases s with
  | non => cases h
  | val d => cases h
  | own m' =>
    cases h
    obtain ⟨a, e1, e2, e3, e4⟩ := q
    exact ⟨a, e1, e2, e4⟩
  | io m' =>
    cases h
    obtain ⟨a, e1, e2, e4⟩ := q
    exact ⟨a, e1, R.b0 a (R.ib i a e2), e4⟩
theorem mut_step {a : Addr} {o' : HO} (h : O a) : Step O H O (upd H a o') := ⟨fun _ q => .inl q, fun b o n e => (upd_ne (fun z : b = a => n (by rw [z]; exact h))).trans e, fun b q => by
  by_cases e : b = a
  · subst e; rw [upd_same]; simp
  · rw [upd_ne e]; exact q⟩
theorem Rel.mut (R : Rel F O ρ σ H) {i : Nat} {s : Sl} {m m' : Mu} {a : Addr} {o' : HO} (e : ρ[i]? = some s) (h : s.get = some m) (ea : σ[i]? = some (some (.ref a))) (ho : O a) (h' : MuAt F.w O (upd H a o') a m') :
    Rel F O (ρ.set i (s.put m')) σ (upd H a o') := by
  have st : Step O H O (upd H a o') := mut_step ho
  have hmu : s.mu = true := by cases s <;> first | rfl | cases h
  have hget : ∀ {b : Addr} {o : HO}, H b = some o → b ≠ a → (upd H a o') b = some o := fun q n => by rw [upd_ne n]; exact q
  refine ⟨by simp [R.len], R.b0, R.bh, R.ib, fun b q => st.dom b (R.dom b q), fun b q => st.dom b (R.doh b q), fun b o q n => ?_, fun j t e1 => ?_, fun j k t u e1 e2 m1 m2 q => ?_⟩
  · have hb := R.keep b o q n
    refine hget hb fun z => ?_
    subst z
    have q2 := R.slot i s e
    cases s with
    | non => cases h
    | val d => cases h
    | own m0 =>
      obtain ⟨c, c1, c2, c3, c4⟩ := q2
      rw [ea] at c1
      cases c1
      rw [q] at c3
      cases c3
    | io m0 =>
      obtain ⟨c, c1, c2, c4⟩ := q2
      rw [ea] at c1
      cases c1
      exact n i c2
  · rcases get_set e1 with ⟨a1, a2⟩ | ⟨a1, a2⟩
    · subst a1
      subst a2
      have q2 := R.slot i s e
      cases s with
      | non => cases h
      | val d => cases h
      | own m0 =>
        obtain ⟨c, c1, c2, c3, c4⟩ := q2
        rw [ea] at c1
        cases c1
        exact ⟨a, ea, ho, c3, h'⟩
      | io m0 =>
        obtain ⟨c, c1, c2, c4⟩ := q2
        rw [ea] at c1
        cases c1
        exact ⟨a, ea, c2, h'⟩
    · have q2 := R.slot j t a2
      cases t with
      | non => trivial
      | val d =>
        obtain ⟨v, c1, c2⟩ := q2
        exact ⟨v, c1, Rep.step st d v c2⟩
      | own m0 =>
        obtain ⟨c, c1, c2, c3, c4⟩ := q2
        refine ⟨c, c1, c2, c3, c4.step st (upd_ne fun z => ?_)⟩
        subst z
        exact a1 (R.dist i j s _ e a2 hmu rfl (ea.trans c1.symm))
      | io m0 =>
        obtain ⟨c, c1, c2, c4⟩ := q2
        refine ⟨c, c1, c2, c4.step st (upd_ne fun z => ?_)⟩
        subst z
        exact a1 (R.dist i j s _ e a2 hmu rfl (ea.trans c1.symm))
  · have key : ∀ (j : Nat) (t : Sl), (ρ.set i (s.put m'))[j]? = some t → t.mu = true → ∃ t', ρ[j]? = some t' ∧ t'.mu = true := fun j t e1 m1 => by
      rcases get_set e1 with ⟨a1, a2⟩ | ⟨a1, a2⟩
      · subst a1
        exact ⟨s, e, hmu⟩
      · exact ⟨t, a2, m1⟩
    obtain ⟨t', f1, f2⟩ := key j t e1 m1
    obtain ⟨u', g1, g2⟩ := key k u e2 m2
    exact R.dist j k t' u' f1 g1 f2 g2 q
end

/-! ### statements -/
inductive Fl where
  | nx | rt (v : Vl) | bk | ct
abbrev MS := En → Rs Fl
def RetAt (F : Fr) (O' : Av) (H' : Hp) (v : V) (x : Vl) : Prop := match x.2 with
  | false => Rep F.w O' H' x.1 v
  | true => ∃ a m, v = .ref a ∧ F.He a = none ∧ O' a ∧ m.is x.1 ∧ MuAt F.w O' H' a m
def HoldS (F : Fr) (W : WX) (O : Av) (H : Hp) (E : Ends) : Rs Fl → Prop
  | .ok .nx ρ' => ∀ O' σ' H', Step O H O' H' → Rel F O' ρ' σ' H' → E.nx σ' H'
  | .ok (.rt x) ρ' => ∀ O' σ' H' v, Step O H O' H' → Rel F O' ρ' σ' H' → RetAt F O' H' v x → E.rt v H'
  | .ok .bk ρ' => ∀ O' σ' H', Step O H O' H' → Rel F O' ρ' σ' H' → E.bk σ' H'
  | .ok .ct ρ' => ∀ O' σ' H', Step O H O' H' → Rel F O' ρ' σ' H' → E.ct σ' H'
  | .exc x ρ' => ∀ O' σ' H' cls d, Step O H O' H' → Rel F O' ρ' σ' H' → XcAt F.w O' H' cls d x → W cls d σ' H'
  | .stuck => False
theorem HoldS.later {F : Fr} {W : WX} {O O1 : Av} {H H1 : Hp} {E : Ends} (s : Step O H O1 H1) : ∀ {r : Rs Fl}, HoldS F W O H E r → HoldS F W O1 H1 E r
  | .ok .nx _, h => fun O' σ' H' st R => h O' σ' H' (s.trans st) R
  | .ok (.rt x) _, h => fun O' σ' H' v st R rv => h O' σ' H' v (s.trans st) R rv
  | .ok .bk _, h => fun O' σ' H' st R => h O' σ' H' (s.trans st) R
  | .ok .ct _, h => fun O' σ' H' st R => h O' σ' H' (s.trans st) R
  | .exc _ _, h => fun O' σ' H' cls d st R xa => h O' σ' H' cls d (s.trans st) R xa
  | .stuck, h => h
def SimS (w : Wd) (W : WX) (ts : TS) (m : MS) : Prop := ∀ (F : Fr) (O : Av) (ρ : En) (σ : St) (H : Hp) (E : Ends), F.w = w → Rel F O ρ σ H → HoldS F W O H E (m ρ) → ts E σ H
def PMS (X : Cx) (w : Wd) (W : WX) (st : Stmt) (m : MS) : Prop := ∃ t, PS X st t ∧ SimS w W t m
def PMSs (X : Cx) (w : Wd) (W : WX) (st : List Stmt) (m : MS) : Prop := ∃ t, PSs X st t ∧ SimS w W t m

/-- an expression, then a statement's rest -/
theorem Sim.bindS {w : Wd} {W : WX} {ta : TE} {ma : ME} (ha : Sim w W ta ma) {F : Fr} {O : Av} {ρ : En} {σ : St} {H : Hp} (hw : F.w = w) (R : Rel F O ρ σ H) {E : Ends} {f : Vl → En → Rs Fl} (h : HoldS F W O H E ((ma ρ).bind f)) {k : V → Hp → Prop}
    (hk : ∀ (x : Vl) (v : V) (ρ1 : En) (O1 : Av) (H1 : Hp), Step O H O1 H1 → Rel F O1 ρ1 σ H1 → VlAt F.w σ H ρ1 O1 H1 v x → HoldS F W O1 H1 E (f x ρ1) → k v H1) : ta σ H k := by
  refine ha F O ρ σ H k hw R ?_
  cases e : ma ρ with
  | ok x ρ1 =>
    rw [e] at h
    exact fun O1 H1 v st R1 rv => hk x v ρ1 O1 H1 st R1 rv (h.later st)
  | exc x ρ1 =>
    rw [e] at h
    exact fun O1 H1 cls d st R1 xa => h O1 σ H1 cls d st R1 xa
  | stuck =>
    rw [e] at h
    exact h
theorem SimT.bindS {w : Wd} {W : WX} {ta : TT} {ma : MT} (ha : SimT w W ta ma) {F : Fr} {O : Av} {ρ : En} {σ : St} {H : Hp} (hw : F.w = w) (R : Rel F O ρ σ H) {E : Ends} {f : Bool → En → Rs Fl} (h : HoldS F W O H E ((ma ρ).bind f)) {k : Bool → Hp → Prop}
    (hk : ∀ (x : Bool) (ρ1 : En) (O1 : Av) (H1 : Hp), Step O H O1 H1 → Rel F O1 ρ1 σ H1 → HoldS F W O1 H1 E (f x ρ1) → k x H1) : ta σ H k := by
  refine ha F O ρ σ H k hw R ?_
  cases e : ma ρ with
  | ok x ρ1 =>
    rw [e] at h
    intro O1 H1 v st R1 rv
    have rv : v = x := rv
    subst rv
    exact hk v ρ1 O1 H1 st R1 (h.later st)
  | exc x ρ1 =>
    rw [e] at h
    exact fun O1 H1 cls d st R1 xa => h O1 σ H1 cls d st R1 xa
  | stuck =>
    rw [e] at h
    exact h
theorem SimA.bindS {w : Wd} {W : WX} {ta : TA} {ma : MA} (ha : SimA w W ta ma) {F : Fr} {O : Av} {ρ : En} {σ : St} {H : Hp} (hw : F.w = w) (R : Rel F O ρ σ H) {E : Ends} {f : List D → En → Rs Fl} (h : HoldS F W O H E ((ma ρ).bind f)) {k : List V → Hp → Prop}
    (hk : ∀ (x : List D) (v : List V) (ρ1 : En) (O1 : Av) (H1 : Hp), Step O H O1 H1 → Rel F O1 ρ1 σ H1 → RepL F.w O1 H1 x v → HoldS F W O1 H1 E (f x ρ1) → k v H1) : ta σ H k := by
  refine ha F O ρ σ H k hw R ?_
  cases e : ma ρ with
  | ok x ρ1 =>
    rw [e] at h
    exact fun O1 H1 v st R1 rv => hk x v ρ1 O1 H1 st R1 rv (h.later st)
  | exc x ρ1 =>
    rw [e] at h
    exact fun O1 H1 cls d st R1 xa => h O1 σ H1 cls d st R1 xa
  | stuck =>
    rw [e] at h
    exact h

def mSeq (a b : MS) : MS := fun ρ => match a ρ with
  | .ok .nx ρ1 => b ρ1
  | r => r
def mNext : MS := fun ρ => .ok .nx ρ
def mIfS (t : MT) (a b : MS) : MS := fun ρ => (t ρ).bind fun x ρ1 => if x = true then a ρ1 else b ρ1
def mRet (m : ME) : MS := fun ρ => (m ρ).bind fun x ρ1 => .ok (.rt x) ρ1
def mRetN : MS := fun ρ => .ok (.rt (.non, false)) ρ
/-- return x, x one's own list -/
def mRetO (i : Nat) : MS := fun ρ => match ρ[i]? with
  | some (.own (.lst ds)) => .ok (.rt (.lst ds, true)) (ρ.set i .non)
  | some (.own (.dct ks vs)) => .ok (.rt (.dct ks vs, true)) (ρ.set i .non)
  | _ => .stuck
def mExpr (m : ME) : MS := fun ρ => (m ρ).bind fun _ ρ1 => .ok .nx ρ1
def setV (i : Nat) (d : D) (ρ : En) : Option En := if notIo (ρ[i]?) = true then some (ρ.set i (.val d)) else none
def nxt (o : Option En) : Rs Fl := match o with
  | some ρ => .ok .nx ρ
  | none => .stuck
def mAsg (i : Nat) (m : ME) : MS := fun ρ => (m ρ).bind fun x ρ1 => nxt (setV i x.1 ρ1)
def toMu : Vl → Option Mu
  | (.lst ds, true) => some (.lst ds)
  | (.dct ks vs, true) => some (.dct ks vs)
  | _ => none
def setO (i : Nat) (x : Vl) (ρ : En) : Option En := if notIo (ρ[i]?) = true then (toMu x).map fun m => ρ.set i (.own m) else none
/-- x = e, x one's own list from then on -/
def mAsgO (i : Nat) (m : ME) : MS := fun ρ => (m ρ).bind fun x ρ1 => nxt (setO i x ρ1)
def mDead : MS := fun _ => .stuck
def mBrk : MS := fun ρ => .ok .bk ρ
def mCnt : MS := fun ρ => .ok .ct ρ
/-- a target: a name, several names -/
abbrev MG := D → En → Option En
def gN (i : Nat) : MG := fun d ρ => setV i d ρ
def gTs : List MG → List D → En → Option En
  | [], [], ρ => some ρ
  | g :: gs, d :: ds, ρ => (g d ρ).bind fun ρ1 => gTs gs ds ρ1
  | _, _, _ => none
def gT (gs : List MG) : MG := fun d ρ => match d with
  | .tup ds => gTs gs ds ρ
  | _ => none
def mAsgG (g : MG) (m : ME) : MS := fun ρ => (m ρ).bind fun x ρ1 => nxt (g x.1 ρ1)

theorem toMu_is {x : Vl} {m m' : Mu} (h : toMu x = some m) (e : m'.is x.1) : x.2 = true ∧ m = m' := by
  obtain ⟨d, b⟩ := x
  cases d <;> cases b <;> simp [toMu] at h <;> subst h <;> cases m' <;> simp [Mu.is] at e ⊢ <;> simp [e]
theorem toMu_fr {x : Vl} {m : Mu} (h : toMu x = some m) : x.2 = true := by
  obtain ⟨d, b⟩ := x
  cases d <;> cases b <;> simp [toMu] at h <;> rfl
section
variable {w : Wd} {W : WX} {X : Cx} {pos pos' : Pos} {a b c e : Expr} {ma mb mc m : ME} {ta tb tc te : TE} {tt uu : TT} {mt mu : MT} {st : Stmt} {rest body : List Stmt} {ms mr : MS} {ts tr : TS}
theorem sims_seq (h1 : SimS w W ts ms) (h2 : SimS w W tr mr) : SimS w W (tSeq ts tr) (mSeq ms mr) := fun F O ρ σ H E hw R hh => by
  refine h1 F O ρ σ H _ hw R ?_
  unfold mSeq at hh
  cases q : ms ρ with
  | ok f ρ1 =>
    rw [q] at hh
    cases f with
    | nx => exact fun O' σ' H' st R' => h2 F O' ρ1 σ' H' E hw R' (hh.later st)
    | rt x => exact hh
    | bk => exact hh
    | ct => exact hh
  | exc x ρ1 => rw [q] at hh; exact hh
  | stuck => rw [q] at hh; exact hh
theorem pms_nil : PMSs X w W [] mNext := ⟨_, pss_nil, fun F O ρ σ H E hw R hh => hh O σ H (Step.refl _ _) R⟩
theorem pms_cons (h1 : PMS X w W st ms) (h2 : PMSs X w W rest mr) : PMSs X w W (st :: rest) (mSeq ms mr) := by
  obtain ⟨t1, p1, s1⟩ := h1
  obtain ⟨t2, p2, s2⟩ := h2
  exact ⟨_, pss_cons p1 p2, sims_seq s1 s2⟩
theorem pms_one (h1 : PMS X w W st ms) : PMSs X w W [st] ms := by
  obtain ⟨t1, p1, s1⟩ := h1
  exact ⟨_, pss_one p1, s1⟩
theorem pms_if (ht : PMT X w W c mt) (ha : PMSs X w W body ms) (hb : PMSs X w W rest mr) : PMS X w W (.If c body rest pos) (mIfS mt ms mr) := by
  obtain ⟨tt, pt, stt⟩ := ht
  obtain ⟨t1, p1, s1⟩ := ha
  obtain ⟨t2, p2, s2⟩ := hb
  refine ⟨_, ps_if pt p1 p2, fun F O ρ σ H E hw R hh => ?_⟩
  refine stt.bindS hw R hh fun x ρ1 O1 H1 st1 R1 h1 => ?_
  cases x with
  | true => exact iteT (s1 F O1 ρ1 σ H1 E hw R1 h1)
  | false => exact iteF (s2 F O1 ρ1 σ H1 E hw R1 h1)
theorem VlAt.ret {F : Fr} {σ : St} {ρ' ρ0 : En} {O0 O' : Av} {H H' : Hp} {v : V} (R : Rel F O0 ρ0 σ H) : ∀ {x : Vl}, VlAt F.w σ H ρ' O' H' v x → RetAt F O' H' v x
  | (d, false), h => h
  | (d, true), ⟨a, m, e1, e2, e3, e4, e5, _⟩ => ⟨a, m, e1, R.freshE e2, e3, e4, e5⟩
theorem pms_ret (he : PM X w W e m) : PMS X w W (.Return (some e) pos) (mRet m) := by
  obtain ⟨te, pe, se⟩ := he
  refine ⟨_, ps_ret pe, fun F O ρ σ H E hw R hh => ?_⟩
  exact se.bindS hw R hh fun x v ρ1 O1 H1 st1 R1 rv h1 => h1 O1 σ H1 v (Step.refl _ _) R1 (VlAt.ret R rv)
theorem pms_retN : PMS X w W (.Return none pos) mRetN := ⟨_, ps_retN, fun F O ρ σ H E hw R hh => hh O σ H .non (Step.refl _ _) R (show Rep F.w O H .non .non by simp only [Rep])⟩
theorem pms_retO {x : Str} (i : Nat) (hN : X.N[i]? = some x := by rfl) (hv : Vis X.env.scope x := by first | exact Or.inl rfl | exact Or.inr (Or.inl rfl) | exact Or.inr (Or.inr rfl)) (hd : (x == ("__debug__" : Str)) = false := by decide)
    (hcd : (x == ("__classdict__" : Str)) = false := by decide) : PMS X w W (.Return (some (.Name x pos')) pos) (mRetO i) := by
  refine ⟨_, ps_ret (pv i hN hv hd hcd), fun F O ρ σ H E hw R hh => ?_⟩
  unfold mRetO at hh
  split at hh
  · rename_i ds e
    obtain ⟨a, e1, e2, e3, e4⟩ := R.slot i _ e
    exact ⟨_, e1, hh O σ H _ (Step.refl _ _) R.setN ⟨a, .lst ds, rfl, e3, e2, rfl, e4⟩⟩
  · rename_i ks vs e
    obtain ⟨a, e1, e2, e3, e4⟩ := R.slot i _ e
    exact ⟨_, e1, hh O σ H _ (Step.refl _ _) R.setN ⟨a, .dct ks vs, rfl, e3, e2, rfl, e4⟩⟩
  · exact hh.elim
theorem pms_expr (he : PM X w W e m) (hs : swapsWith e none pos.line X.env = pure false := by rfl) : PMS X w W (.Expr e pos) (mExpr m) := by
  obtain ⟨te, pe, se⟩ := he
  refine ⟨_, ps_expr pe hs, fun F O ρ σ H E hw R hh => ?_⟩
  exact se.bindS hw R hh fun x v ρ1 O1 H1 st1 R1 rv h1 => h1 O1 σ H1 (Step.refl _ _) R1
theorem setV_rel {F : Fr} {O : Av} {ρ ρ' : En} {σ : St} {H : Hp} {i : Nat} {d : D} {v : V} (R : Rel F O ρ σ H) (h : Rep F.w O H d v) (e : setV i d ρ = some ρ') : Rel F O ρ' (σ.set i (some v)) H := by
  unfold setV at e
  split at e
  · rename_i hi
    cases e
    exact R.setV h hi
  · cases e
theorem pms_set {i : Nat} {x : Str} (hN : X.N.Nodup) (hi : X.N[i]? = some x) (hx : Loc X.env.scope x) (he : PM X w W e m) (hs : swapsWith e (some (.Name x pos')) pos.line X.env = pure false := by rfl) (hf : X.fn x = true ∨ X.env.scope.names.lookup x = some .local := by first | exact .inl rfl | exact .inr rfl | assumption) :
    PMS X w W (.Assign [.Name x pos'] e pos) (mAsg i m) := by
  obtain ⟨te, pe, se⟩ := he
  refine ⟨_, ps_set hN hi hx pe hs hf, fun F O ρ σ H E hw R hh => ?_⟩
  refine se.bindS hw R hh fun x v ρ1 O1 H1 st1 R1 rv h1 => ?_
  obtain ⟨O2, s2, R2, r2, s3⟩ := VlAt.release st1 R1 R.doh rv
  show E.nx _ _
  cases q : setV i x.1 ρ1 with
  | none => rw [q] at h1; exact h1.elim
  | some ρ2 =>
    rw [q] at h1
    exact h1 O2 _ H1 s3 (setV_rel R2 r2 q)
theorem setO_rel {F : Fr} {O0 O : Av} {ρ0 ρ ρ' : En} {σ : St} {H0 H : Hp} {i : Nat} {x : Vl} {v : V} (R0 : Rel F O0 ρ0 σ H0) (R : Rel F O ρ σ H) (h : VlAt F.w σ H0 ρ O H v x) (e : setO i x ρ = some ρ') : Rel F O ρ' (σ.set i (some v)) H := by
  unfold setO at e
  split at e
  · rename_i hi
    cases q : toMu x with
    | none => rw [q] at e; cases e
    | some mm =>
      rw [q] at e
      cases e
      unfold VlAt at h
      rw [toMu_fr q] at h
      obtain ⟨a, m', e1, e2, e3, e4, e5, e6⟩ := h
      have z := (toMu_is q e4).2
      subst z
      subst e1
      exact R.setO e5 e3 (R0.freshE e2) e6 hi
  · cases e
theorem pms_setO {i : Nat} {x : Str} (hN : X.N.Nodup) (hi : X.N[i]? = some x) (hx : Loc X.env.scope x) (he : PM X w W e m) (hs : swapsWith e (some (.Name x pos')) pos.line X.env = pure false := by rfl) (hf : X.fn x = true ∨ X.env.scope.names.lookup x = some .local := by first | exact .inl rfl | exact .inr rfl | assumption) :
    PMS X w W (.Assign [.Name x pos'] e pos) (mAsgO i m) := by
  obtain ⟨te, pe, se⟩ := he
  refine ⟨_, ps_set hN hi hx pe hs hf, fun F O ρ σ H E hw R hh => ?_⟩
  refine se.bindS hw R hh fun x v ρ1 O1 H1 st1 R1 rv h1 => ?_
  show E.nx _ _
  cases q : setO i x ρ1 with
  | none => rw [q] at h1; exact h1.elim
  | some ρ2 =>
    rw [q] at h1
    exact h1 O1 _ H1 (Step.refl _ _) (setO_rel R R1 rv q)
theorem pms_dead {st : Stmt} : PMS X w W st mDead := ⟨_, ps_never, fun F O ρ σ H E hw R hh => hh⟩
theorem pms_brk : PMS X w W (.Break pos) mBrk := ⟨_, ps_break, fun F O ρ σ H E hw R hh => hh O σ H (Step.refl _ _) R⟩
theorem pms_cnt : PMS X w W (.Continue pos) mCnt := ⟨_, ps_continue, fun F O ρ σ H E hw R hh => hh O σ H (Step.refl _ _) R⟩
theorem pms_pass : PMS X w W (.Pass pos) mNext := ⟨_, ps_pass, fun F O ρ σ H E hw R hh => hh O σ H (Step.refl _ _) R⟩

/-! ### targets -/
/-- the slots outside is stay -/
def Out (js : List Nat) (σ σ1 : St) : Prop := ∀ vs : List Nat, (∀ j ∈ js, j ∈ vs) → wipe σ1 vs = wipe σ vs
def SimG (w : Wd) (g : TG) (m : MG) (js : List Nat) : Prop := ∀ (F : Fr) (O : Av) (ρ ρ1 : En) (σ : St) (H : Hp) (v : V) (d : D) (Q : St → Hp → Prop), F.w = w → Rel F O ρ σ H → Rep F.w O H d v → m d ρ = some ρ1 → (∀ σ1, Rel F O ρ1 σ1 H → Out js σ σ1 → Q σ1 H) → g v σ H Q
def SimGs (w : Wd) (g : TGs) (ms : List MG) (js : List Nat) : Prop := ∀ (F : Fr) (O : Av) (ρ ρ1 : En) (σ : St) (H : Hp) (vs : List V) (ds : List D) (Q : St → Hp → Prop), F.w = w → Rel F O ρ σ H → RepL F.w O H ds vs → gTs ms ds ρ = some ρ1 → (∀ σ1, Rel F O ρ1 σ1 H → Out js σ σ1 → Q σ1 H) → g vs σ H Q
def PMG (X : Cx) (w : Wd) (tg : Expr) (m : MG) (js : List Nat) : Prop := ∃ g, PG X tg g ∧ SimG w g m js
def PMGs (X : Cx) (w : Wd) (tg : List Expr) (m : List MG) (js : List Nat) : Prop := ∃ g, PGs X tg g ∧ SimGs w g m js
theorem wipe_get {σ : St} {vs : List Nat} {j : Nat} : (wipe σ vs)[j]? = if j ∈ vs then (σ[j]?).map fun _ => none else σ[j]? := by
  induction vs with
  | nil => simp [wipe]
  | cons v vs ih =>
    unfold wipe
    by_cases e : v = j
    · subst e
      rw [List.getElem?_set_self', ih]
      cases q : σ[v]? <;> simp [q] <;> split <;> simp_all
    · rw [List.getElem?_set_ne e, ih]
      have : (j ∈ v :: vs) ↔ j ∈ vs := by simp [Ne.symm e]
      simp [this]
theorem out_set {σ : St} {v : Option V} (i : Nat) : Out [i] σ (σ.set i v) := fun vs hv => by
  have hi := hv i (by simp)
  apply List.ext_getElem?
  intro j
  rw [wipe_get, wipe_get]
  by_cases e : i = j
  · subst e
    rw [if_pos hi, if_pos hi, List.getElem?_set_self']
    cases σ[i]? <;> rfl
  · rw [List.getElem?_set_ne e]
theorem pmg_name {i : Nat} {x : Str} (hN : X.N.Nodup) (hi : X.N[i]? = some x) (hx : Loc X.env.scope x) (hf : X.fn x = true ∨ X.env.scope.names.lookup x = some .local := by first | exact .inl rfl | exact .inr rfl | assumption) : PMG X w (.Name x pos) (gN i) [i] :=
  ⟨_, pg_name hN hi hx hf, fun F O ρ ρ1 σ H v d Q hw R h e k => k _ (setV_rel R h e) (out_set i)⟩
theorem pmgs_nil : PMGs X w [] [] [] := ⟨_, pgs_nil, fun F O ρ ρ1 σ H vs ds Q hw R h e k => by
  cases ds with
  | nil =>
    simp only [RepL] at h
    cases e
    exact ⟨h, k σ R fun _ _ => rfl⟩
  | cons d ds => cases e⟩
theorem pmgs_cons {g : MG} {gs : List MG} {js ks : List Nat} {es : List Expr} (h1 : PMG X w e g js) (h2 : PMGs X w es gs ks) (hs : (assignEach (e :: es) X.env).map (·.2) = assign e X.env :: (assignEach es X.env).map (·.2) := by rfl) : PMGs X w (e :: es) (g :: gs) (js ++ ks) := by
  obtain ⟨g1, p1, s1⟩ := h1
  obtain ⟨g2, p2, s2⟩ := h2
  refine ⟨_, pgs_cons p1 p2 hs, fun F O ρ ρ1 σ H vs ds Q hw R h ee k => ?_⟩
  cases ds with
  | nil => cases ee
  | cons d ds =>
    simp only [RepL] at h
    obtain ⟨v, vs', rfl, r1, r2⟩ := h
    have ee : (g d ρ).bind (fun ρ1 => gTs gs ds ρ1) = some ρ1 := ee
    cases q : g d ρ with
    | none => rw [q] at ee; cases ee
    | some ρ2 =>
      rw [q] at ee
      exact ⟨v, vs', rfl, s1 F O ρ ρ2 σ H v d _ hw R r1 q fun σ1 R1 o1 => s2 F O ρ2 ρ1 σ1 H vs' ds Q hw R1 r2 ee fun σ2 R2 o2 => k σ2 R2 fun vs hv => (o2 vs fun j hj => hv j (List.mem_append_right _ hj)).trans (o1 vs fun j hj => hv j (List.mem_append_left _ hj))⟩
theorem sq_of_rep {K : PySem.W.Frag} {O : Av} {H : Hp} {a : Addr} {vs : List V} (h : At O H a (.tup vs) ∨ WrT K a vs) : SqT K H a vs := h.imp (fun q => .inl q.2) id
theorem sl_of_rep {K : PySem.W.Frag} {O : Av} {H : Hp} {a : Addr} {vs : List V} (h : At O H a (.lst vs)) : SqL K H a vs := .inl (.inl h.2)
theorem pmg_tup {es : List Expr} {k : _} {gs : List MG} {js : List Nat} (hK : w.K = X.K) (hc : X.calm = true) (h : PMGs X w es gs js) (hn : (assignEach es X.env).length = gs.length := by rfl) (hst : (assignEach es X.env).findIdx? (·.1) = none := by rfl) : PMG X w (.Tuple es k pos) (gT gs) js := by
  obtain ⟨g, p, s⟩ := h
  refine ⟨_, pg_tup hc p hn hst, fun F O ρ ρ1 σ H v d Q hw R h ee kk => ?_⟩
  cases d with
  | tup ds =>
    simp only [Rep] at h
    obtain ⟨a, vs, rfl, h1, h2⟩ := h
    have hlen : ds.length = gs.length := by
      have key : ∀ (gs : List MG) (ds : List D) (ρ ρ1 : En), gTs gs ds ρ = some ρ1 → ds.length = gs.length := by
        intro gs
        induction gs with
        | nil => intro ds ρ ρ1 e; cases ds with
          | nil => rfl
          | cons _ _ => cases e
        | cons g gs ih => intro ds ρ ρ1 e; cases ds with
          | nil => cases e
          | cons d ds =>
            have e : (g d ρ).bind (fun ρ1 => gTs gs ds ρ1) = some ρ1 := e
            cases q : g d ρ with
            | none => rw [q] at e; cases e
            | some ρ2 => rw [q] at e; simp [ih ds ρ2 ρ1 e]
      exact key gs ds ρ ρ1 ee
    refine ⟨a, vs, rfl, ?_, by rw [h2.length]; exact hlen, s F O ρ ρ1 σ H vs ds Q hw R h2 ee kk⟩
    rw [← hK, ← hw]
    exact sq_of_rep h1
  | _ => cases ee
theorem pms_asgG {g : MG} {js : List Nat} {tg : Expr} (he : PM X w W e m) (hg : PMG X w tg g js) (hs : swapsWithSole [tg] e pos.line X.env = pure false := by rfl) (hsw : swappedStores [tg] e X.env = pure none := by rfl)
    (h1 : (assignEach [tg] X.env).map (·.2) = [assign tg X.env] := by rfl) : PMS X w W (.Assign [tg] e pos) (mAsgG g m) := by
  obtain ⟨te, pe, se⟩ := he
  obtain ⟨tgg, pg, sg⟩ := hg
  refine ⟨_, ps_asg pe pg hs hsw h1, fun F O ρ σ H E hw R hh => ?_⟩
  refine se.bindS hw R hh fun x v ρ1 O1 H1 st1 R1 rv h1 => ?_
  obtain ⟨O2, s2, R2, r2, s3⟩ := VlAt.release st1 R1 R.doh rv
  cases q : g x.1 ρ1 with
  | none => rw [q] at h1; exact h1.elim
  | some ρ2 =>
    rw [q] at h1
    exact sg F O2 ρ1 ρ2 σ H1 v x.1 _ hw R2 r2 q fun σ1 R3 _ => h1 O2 σ1 H1 s3 R3
end
end PM

namespace PM
open PySem L2

/-! ### loops -/
def mLoop (g : MG) (body : MS) : List D → MS
  | [], ρ => .ok .nx ρ
  | d :: ds, ρ => match g d ρ with
    | none => .stuck
    | some ρ1 => match body ρ1 with
      | .ok .nx ρ2 => mLoop g body ds ρ2
      | .ok .ct ρ2 => mLoop g body ds ρ2
      | .ok .bk ρ2 => .ok .nx ρ2
      | r => r
theorem loop_turn {w : Wd} {W : WX} {gg : TG} {g : MG} {js : List Nat} {tb : TS} {body : MS} (sg : SimG w gg g js) (sb : SimS w W tb body) {F : Fr} {O0 O : Av} {ρ : En} {σ : St} {H0 H : Hp} {E : Ends} {d : D} {v : V} {ds : List D} {Nx : St → Hp → Prop} (hw : F.w = w)
    (R : Rel F O ρ σ H) (rd : Rep F.w O H d v) (st0 : Step O0 H0 O H) (hh : HoldS F W O0 H0 E (mLoop g body (d :: ds) ρ))
    (hN : ∀ O' ρ' σ' H', Step O0 H0 O' H' → Rel F O' ρ' σ' H' → HoldS F W O0 H0 E (mLoop g body ds ρ') → Nx σ' H') : gg v σ H fun σ2 H2 => tb { E with nx := Nx, ct := Nx, bk := E.nx } σ2 H2 := by
  unfold mLoop at hh
  cases q : g d ρ with
  | none => rw [q] at hh; exact hh.elim
  | some ρ1 =>
    rw [q] at hh
    refine sg F O ρ ρ1 σ H v d _ hw R rd q fun σ1 R1 _ => ?_
    refine sb F O ρ1 σ1 H _ hw R1 ?_
    cases q2 : body ρ1 with
    | stuck => simp only [q2] at hh; exact hh
    | exc x ρ2 =>
      simp only [q2] at hh
      exact HoldS.later st0 (r := .exc x ρ2) hh
    | ok f ρ2 =>
      simp only [q2] at hh
      cases f with
      | nx => exact fun O' σ' H' st R' => hN O' ρ2 σ' H' (st0.trans st) R' hh
      | ct => exact fun O' σ' H' st R' => hN O' ρ2 σ' H' (st0.trans st) R' hh
      | bk => exact fun O' σ' H' st R' => hh O' σ' H' (st0.trans st) R'
      | rt x => exact fun O' σ' H' v st R' rv => hh O' σ' H' v (st0.trans st) R' rv
theorem RepL.at {w : Wd} {O : Av} {H : Hp} : ∀ {ds : List D} {vs : List V} {i : Nat} {v : V}, RepL w O H ds vs → vs[i]? = some v → ∃ d, ds.drop i = d :: ds.drop (i + 1) ∧ Rep w O H d v
  | [], vs, i, v, h, e => by
    simp only [RepL] at h
    rw [h] at e
    simp at e
  | d :: ds, vs, i, v, h, e => by
    simp only [RepL] at h
    obtain ⟨u, us, rfl, h1, h2⟩ := h
    cases i with
    | zero =>
      have z : u = v := by simpa using e
      subst z
      exact ⟨d, rfl, h1⟩
    | succ i =>
      obtain ⟨d', e', h'⟩ := RepL.at (i := i) h2 (by simpa using e)
      exact ⟨d', e', h'⟩
def mForL (it : ME) (g : MG) (body : MS) : MS := fun ρ => (it ρ).bind fun x ρ1 => match x.1 with
  | .lst ds => mLoop g body ds ρ1
  | _ => .stuck
def mForT (it : ME) (g : MG) (body : MS) : MS := fun ρ => (it ρ).bind fun x ρ1 => match x.1 with
  | .tup ds => mLoop g body ds ρ1
  | _ => .stuck
def rgL (lo : Int) : Nat → List D
  | 0 => []
  | n + 1 => .int lo :: rgL (lo + 1) n
theorem rgL_drop (lo : Int) (n i : Nat) (h : i < n) : (rgL lo n).drop i = .int (lo + i) :: (rgL lo n).drop (i + 1) := by
  induction n generalizing lo i with
  | zero => omega
  | succ n ih =>
    cases i with
    | zero => simp [rgL]
    | succ i =>
      have := ih (lo + 1) i (by omega)
      simp only [rgL, List.drop_succ_cons]
      rw [this]
      congr 2
      omega
theorem rgL_length (lo : Int) (n : Nat) : (rgL lo n).length = n := by
  induction n generalizing lo with
  | zero => rfl
  | succ n ih => simp [rgL, ih]
def rng1 : List D → Option (List D)
  | [.int j] => if -(2 ^ 62) ≤ j ∧ j < 2 ^ 62 then some (rgL 0 j.toNat) else none
  | _ => none
def rng2 : List D → Option (List D)
  | [.int i, .int j] => if -(2 ^ 62) ≤ i ∧ i < 2 ^ 62 ∧ -(2 ^ 62) ≤ j ∧ j < 2 ^ 62 then some (rgL i (j - i).toNat) else none
  | _ => none
def mForR (rg : List D → Option (List D)) (ma : MA) (g : MG) (body : MS) : MS := fun ρ => (ma ρ).bind fun xs ρ1 => match rg xs with
  | some ds => mLoop g body ds ρ1
  | none => .stuck
section
variable {w : Wd} {W : WX} {X : Cx} {pos pos' p : Pos} {it tg : Expr} {m : ME} {te : TE} {body : List Stmt} {mb : MS} {g : MG} {js : List Nat} {a b : Expr} {mr : MA}
theorem repl1 {O : Av} {H : Hp} {x : D} {vs : List V} (h : RepL w O H [x] vs) : ∃ v, vs = [v] ∧ Rep w O H x v := by
  simp only [RepL] at h
  obtain ⟨v, vs', e, h1, e2⟩ := h
  rw [e2] at e
  exact ⟨v, e, h1⟩
theorem repl2 {O : Av} {H : Hp} {x y : D} {vs : List V} (h : RepL w O H [x, y] vs) : ∃ v u, vs = [v, u] ∧ Rep w O H x v ∧ Rep w O H y u := by
  simp only [RepL] at h
  obtain ⟨v, vs', e, h1, u, us, e2, h2, e3⟩ := h
  rw [e3] at e2
  rw [e2] at e
  exact ⟨v, u, e, h1, h2⟩
theorem rep_int {O : Av} {H : Hp} {b : Int} {v : V} (h : Rep w O H (.int b) v) : v = .int b := by simpa only [Rep] using h
theorem rep_str {O : Av} {H : Hp} {b : Str} {v : V} (h : Rep w O H (.str b) v) : v = .str b := by simpa only [Rep] using h
theorem pms_forL (hK : w.K = X.K) (hp : PassesOwn (model X.prog X.w) X.A X.env X.xe) (hc : X.calm = true) (hi : PM X w W it m) (hg : PMG X w tg g js) (hb : PMSs X w W body mb) (hs : ∀ x, foldedSetIterable it X.env x = pure x := by intro _; rfl) :
    PMS X w W (.For tg it body [] pos) (mForL m g mb) := by
  obtain ⟨ti, pi, si⟩ := hi
  obtain ⟨gg, pg, sg⟩ := hg
  obtain ⟨tb, pb, sb⟩ := hb
  refine ⟨_, ps_for hp hc (pi_list pi) pg pb hs, fun F O ρ σ H E hw R hh => ?_⟩
  refine si.bindS hw R hh fun x v ρ1 O1 H1 st1 R1 rv h1 => ?_
  obtain ⟨O2, s2, R2, r2, s3⟩ := VlAt.release st1 R1 R.doh rv
  split at h1
  · rename_i ds ed
    rw [ed] at r2
    have r0 := r2
    simp only [Rep] at r2
    obtain ⟨c, vs, rfl, hq, hr⟩ := r2
    have sq : SqL X.K H1 c vs := by rw [← hK, ← hw]; exact sl_of_rep hq
    refine ⟨c, rfl, ⟨vs, sq⟩, for_list (K := X.K) (a := c) (xs := vs) (fun i σ' H' => ∃ O' ρ', Step O2 H1 O' H' ∧ Rel F O' ρ' σ' H' ∧ HoldS F W O2 H1 E (mLoop g mb (ds.drop i) ρ')) ⟨O2, ρ1, Step.refl _ _, R2, h1.later s3⟩ ?_ ?_ ?_⟩
    · rintro i σ' H' _ ⟨O', ρ', st, R', _⟩
      rw [← hK, ← hw]
      exact sl_of_rep (At.step st hq)
    · rintro i x' σ' H' ex ⟨O', ρ', st, R', hl⟩
      obtain ⟨d, ed', rd⟩ := hr.at ex
      rw [ed'] at hl
      exact loop_turn sg sb hw R' (Rep.step st _ _ rd) st hl fun O3 ρ3 σ3 H3 st3 R3 h3 => ⟨O3, ρ3, st3, R3, h3⟩
    · rintro σ' H' ⟨O', ρ', st, R', hl⟩
      rw [hr.length, List.drop_length] at hl
      exact hl O' σ' H' st R'
  · exact h1.elim
theorem pms_forT (hK : w.K = X.K) (hp : PassesOwn (model X.prog X.w) X.A X.env X.xe) (hc : X.calm = true) (hi : PM X w W it m) (hg : PMG X w tg g js) (hb : PMSs X w W body mb) (hs : ∀ x, foldedSetIterable it X.env x = pure x := by intro _; rfl) :
    PMS X w W (.For tg it body [] pos) (mForT m g mb) := by
  obtain ⟨ti, pi, si⟩ := hi
  obtain ⟨gg, pg, sg⟩ := hg
  obtain ⟨tb, pb, sb⟩ := hb
  refine ⟨_, ps_for hp hc (pi_tup pi) pg pb hs, fun F O ρ σ H E hw R hh => ?_⟩
  refine si.bindS hw R hh fun x v ρ1 O1 H1 st1 R1 rv h1 => ?_
  obtain ⟨O2, s2, R2, r2, s3⟩ := VlAt.release st1 R1 R.doh rv
  split at h1
  · rename_i ds ed
    rw [ed] at r2
    simp only [Rep] at r2
    obtain ⟨c, vs, rfl, hq, hr⟩ := r2
    have sq : SqT X.K H1 c vs := by rw [← hK, ← hw]; exact sq_of_rep hq
    refine ⟨c, rfl, ⟨vs, sq⟩, for_tup (K := X.K) (a := c) (xs := vs) (fun i σ' H' => ∃ O' ρ', Step O2 H1 O' H' ∧ Rel F O' ρ' σ' H' ∧ HoldS F W O2 H1 E (mLoop g mb (ds.drop i) ρ')) ⟨O2, ρ1, Step.refl _ _, R2, h1.later s3⟩ ?_ ?_ ?_⟩
    · rintro i σ' H' _ ⟨O', ρ', st, R', _⟩
      rw [← hK, ← hw]
      exact sq_of_rep (hq.imp (At.step st) id)
    · rintro i x' σ' H' ex ⟨O', ρ', st, R', hl⟩
      obtain ⟨d, ed', rd⟩ := hr.at ex
      rw [ed'] at hl
      exact loop_turn sg sb hw R' (Rep.step st _ _ rd) st hl fun O3 ρ3 σ3 H3 st3 R3 h3 => ⟨O3, ρ3, st3, R3, h3⟩
    · rintro σ' H' ⟨O', ρ', st, R', hl⟩
      rw [hr.length, List.drop_length] at hl
      exact hl O' σ' H' st R'
  · exact h1.elim
theorem for_ints {gg : TG} {tb : TS} {F : Fr} {E : Ends} {lo : Int} {n : Nat} {O2 : Av} {H1 : Hp} {σ : St} {ρ1 : En} (hw : F.w = w) (sg : SimG w gg g js) (sb : SimS w W tb mb) (R2 : Rel F O2 ρ1 σ H1) (h1 : HoldS F W O2 H1 E (mLoop g mb (rgL lo n) ρ1)) :
    ∃ W : Nat → Nat → St → Hp → Prop, (∃ m, W 0 m σ H1) ∧ ∀ i m σ H, W i m σ H →
      ((Itr lo n).stop i H ∧ E.nx σ H) ∨ ((Itr lo n).go i H ∧ ∃ N : St → Hp → Prop, (∀ σ' H', N σ' H' → ∃ m', m' < m ∧ W (i + 1) m' σ' H') ∧ ∀ x H', (Itr lo n).yld i H x H' → gg x σ H' fun σ2 H2 => tb { E with nx := N, ct := N, bk := E.nx } σ2 H2) := by
  refine for_range (lo := lo) (n := n) (fun i σ' H' => ∃ O' ρ', Step O2 H1 O' H' ∧ Rel F O' ρ' σ' H' ∧ HoldS F W O2 H1 E (mLoop g mb ((rgL lo n).drop i) ρ')) ⟨O2, ρ1, Step.refl _ _, R2, h1⟩ ?_ ?_
  · rintro i σ' H' hi ⟨O', ρ', st, R', hl⟩
    rw [rgL_drop lo n i hi] at hl
    exact loop_turn sg sb hw R' (by simp only [Rep]) st hl fun O3 ρ3 σ3 H3 st3 R3 h3 => ⟨O3, ρ3, st3, R3, h3⟩
  · rintro σ' H' ⟨O', ρ', st, R', hl⟩
    have z : (rgL lo n).drop n = [] := by rw [List.drop_eq_nil_iff, rgL_length]; omega
    rw [z] at hl
    exact hl O' σ' H' st R'
theorem pms_forR1 (hp : PassesOwn (model X.prog X.w) X.A X.env X.xe) (hc : X.calm = true) (hg' : Gl X "range") (hm : X.mg "range" = none) (ha : PMA X w W [a] mr) (hg : PMG X w tg g js) (hb : PMSs X w W body mb) (hst : starEach [a] X.env = [(false, eval a X.env)] := by rfl)
    (hs : ∀ x, foldedSetIterable (.Call (.Name "range" p) [a] [] pos') X.env x = pure x := by intro _; rfl) : PMS X w W (.For tg (.Call (.Name "range" p) [a] [] pos') body [] pos) (mForR rng1 mr g mb) := by
  obtain ⟨ti, pi, si⟩ := ha
  obtain ⟨gg, pg, sg⟩ := hg
  obtain ⟨tb, pb, sb⟩ := hb
  refine ⟨_, ps_for hp hc (pi_range1 hg' hm pi hst) pg pb hs, fun F O ρ σ H E hw R hh => ?_⟩
  refine si.bindS hw R hh fun xs vs ρ1 O1 H1 st1 R1 rs h1 => ?_
  split at h1
  · rename_i ds ed
    unfold rng1 at ed
    split at ed
    · rename_i j
      split at ed
      · rename_i hj
        cases ed
        obtain ⟨v, rfl, r1⟩ := repl1 rs
        rw [rep_int r1]
        exact ⟨j, rfl, hj.1, hj.2, for_ints hw sg sb R1 h1⟩
      · cases ed
    · cases ed
  · exact h1.elim
theorem pms_forR2 (hp : PassesOwn (model X.prog X.w) X.A X.env X.xe) (hc : X.calm = true) (hg' : Gl X "range") (hm : X.mg "range" = none) (ha : PMA X w W [a, b] mr) (hg : PMG X w tg g js) (hb : PMSs X w W body mb) (hst : starEach [a, b] X.env = [(false, eval a X.env), (false, eval b X.env)] := by rfl) (hst2 : starEach [b] X.env = [(false, eval b X.env)] := by rfl)
    (hs : ∀ x, foldedSetIterable (.Call (.Name "range" p) [a, b] [] pos') X.env x = pure x := by intro _; rfl) : PMS X w W (.For tg (.Call (.Name "range" p) [a, b] [] pos') body [] pos) (mForR rng2 mr g mb) := by
  obtain ⟨ti, pi, si⟩ := ha
  obtain ⟨gg, pg, sg⟩ := hg
  obtain ⟨tb, pb, sb⟩ := hb
  refine ⟨_, ps_for hp hc (pi_range2 hg' hm pi hst hst2) pg pb hs, fun F O ρ σ H E hw R hh => ?_⟩
  refine si.bindS hw R hh fun xs vs ρ1 O1 H1 st1 R1 rs h1 => ?_
  split at h1
  · rename_i ds ed
    unfold rng2 at ed
    split at ed
    · rename_i i j
      split at ed
      · rename_i hj
        cases ed
        obtain ⟨v, u, rfl, r1, r2⟩ := repl2 rs
        rw [rep_int r1, rep_int r2]
        exact ⟨i, j, rfl, hj, for_ints hw sg sb R1 h1⟩
      · cases ed
    · cases ed
  · exact h1.elim

/-! ### while -/
def mWhile (t : MT) (body : MS) : Nat → MS
  | 0, _ => .stuck
  | n + 1, ρ => (t ρ).bind fun x ρ1 => if x = true then (match body ρ1 with
      | .ok .nx ρ2 => mWhile t body n ρ2
      | .ok .ct ρ2 => mWhile t body n ρ2
      | .ok .bk ρ2 => .ok .nx ρ2
      | r => r) else .ok .nx ρ1
theorem pms_while (n : Nat) {c : Expr} {mt : MT} (hp : PassesOwn (model X.prog X.w) X.A X.env X.xe) (ht : PMT X w W c mt) (hb : PMSs X w W body mb) : PMS X w W (.While c body [] pos) (mWhile mt mb n) := by
  obtain ⟨tt, pt, stt⟩ := ht
  obtain ⟨tb, pb, sb⟩ := hb
  refine ⟨_, ps_while hp pt pb, fun F O ρ σ H E hw R hh => ?_⟩
  refine ⟨fun k σ' H' => ∃ O' ρ', Rel F O' ρ' σ' H' ∧ HoldS F W O' H' E (mWhile mt mb k ρ'), ⟨n, O, ρ, R, hh⟩, ?_⟩
  rintro k σ' H' ⟨O', ρ', R', hl⟩
  cases k with
  | zero => exact hl.elim
  | succ k =>
    refine stt.bindS hw R' hl fun x ρ1 O1 H1 st1 R1 h1 => ?_
    cases x with
    | false => exact iteF (h1 O1 σ' H1 (Step.refl _ _) R1)
    | true =>
      refine iteT ⟨fun σ2 H2 => ∃ O2 ρ2, Rel F O2 ρ2 σ2 H2 ∧ HoldS F W O2 H2 E (mWhile mt mb k ρ2), fun σ2 H2 q => ⟨k, Nat.lt_succ_self k, q⟩, ?_⟩
      refine sb F O1 ρ1 σ' H1 _ hw R1 ?_
      have h1 : HoldS F W O1 H1 E (match mb ρ1 with
        | .ok .nx ρ2 => mWhile mt mb k ρ2
        | .ok .ct ρ2 => mWhile mt mb k ρ2
        | .ok .bk ρ2 => .ok .nx ρ2
        | r => r) := h1
      cases q2 : mb ρ1 with
      | stuck => simp only [q2] at h1; exact h1
      | exc x ρ2 => simp only [q2] at h1; exact h1
      | ok f ρ2 =>
        simp only [q2] at h1
        cases f with
        | nx => exact fun O2 σ2 H2 st R2 => ⟨O2, ρ2, R2, h1.later st⟩
        | ct => exact fun O2 σ2 H2 st R2 => ⟨O2, ρ2, R2, h1.later st⟩
        | bk => exact h1
        | rt x => exact h1
end
end PM

namespace PM
open PySem L2

section
variable {F : Fr} {O O' : Av} {ρ : En} {σ : St} {H H' : Hp}
theorem Rel.mutG (R : Rel F O ρ σ H) {i : Nat} {s : Sl} {m m' : Mu} {a : Addr} (e : ρ[i]? = some s) (h : s.get = some m) (ea : σ[i]? = some (some (.ref a))) (hk : ∀ b o, b ≠ a → H b = some o → H' b = some o) (st : Step O H O' H') (hO : ∀ b, O b → O' b) (hdm : ∀ b, O' b → H' b ≠ none)
    (h' : MuAt F.w O' H' a m') : Rel F O' (ρ.set i (s.put m')) σ H' := by
  have hmu : s.mu = true := by cases s <;> first | rfl | cases h
  have same : ∀ {c : Addr} {m0 : Mu}, MuAt F.w O H c m0 → c ≠ a → H' c = H c := fun {c m0} q n => by
    cases z : H c with
    | none => exact absurd z q.some
    | some o => exact hk c o n z
  refine ⟨by simp [R.len], fun b q => hO b (R.b0 b q), R.bh, R.ib, hdm, fun b q => st.dom b (R.doh b q), fun b o q n => ?_, fun j t e1 => ?_, fun j k t u e1 e2 m1 m2 q => ?_⟩
  · refine hk b o (fun z => ?_) (R.keep b o q n)
    subst z
    have q2 := R.slot i s e
    cases s with
    | non => cases h
    | val d => cases h
    | own m0 =>
      obtain ⟨c, c1, c2, c3, c4⟩ := q2
      rw [ea] at c1
      cases c1
      rw [q] at c3
      cases c3
    | io m0 =>
      obtain ⟨c, c1, c2, c4⟩ := q2
      rw [ea] at c1
      cases c1
      exact n i c2
  · rcases get_set e1 with ⟨a1, a2⟩ | ⟨a1, a2⟩
    · subst a1
      subst a2
      have q2 := R.slot i s e
      cases s with
      | non => cases h
      | val d => cases h
      | own m0 =>
        obtain ⟨c, c1, c2, c3, c4⟩ := q2
        rw [ea] at c1
        cases c1
        exact ⟨a, ea, hO _ c2, c3, h'⟩
      | io m0 =>
        obtain ⟨c, c1, c2, c4⟩ := q2
        rw [ea] at c1
        cases c1
        exact ⟨a, ea, c2, h'⟩
    · have q2 := R.slot j t a2
      cases t with
      | non => trivial
      | val d =>
        obtain ⟨v, c1, c2⟩ := q2
        exact ⟨v, c1, Rep.step st d v c2⟩
      | own m0 =>
        obtain ⟨c, c1, c2, c3, c4⟩ := q2
        refine ⟨c, c1, hO _ c2, c3, c4.step st (same c4 fun z => ?_)⟩
        subst z
        exact a1 (R.dist i j s _ e a2 hmu rfl (ea.trans c1.symm))
      | io m0 =>
        obtain ⟨c, c1, c2, c4⟩ := q2
        refine ⟨c, c1, c2, c4.step st (same c4 fun z => ?_)⟩
        subst z
        exact a1 (R.dist i j s _ e a2 hmu rfl (ea.trans c1.symm))
  · have key : ∀ (j : Nat) (t : Sl), (ρ.set i (s.put m'))[j]? = some t → t.mu = true → ∃ t', ρ[j]? = some t' ∧ t'.mu = true := fun j t e1 m1 => by
      rcases get_set e1 with ⟨a1, a2⟩ | ⟨a1, a2⟩
      · subst a1
        exact ⟨s, e, hmu⟩
      · exact ⟨t, a2, m1⟩
    obtain ⟨t', f1, f2⟩ := key j t e1 m1
    obtain ⟨u', g1, g2⟩ := key k u e2 m2
    exact R.dist j k t' u' f1 g1 f2 g2 q
theorem Apart.put (R : Apart ρ σ a) {i : Nat} {s : Sl} {m' : Mu} (e : ρ[i]? = some s) (h : s.mu = true) : Apart (ρ.set i (s.put m')) σ a := fun j t e1 m1 => by
  rcases get_set e1 with ⟨a1, a2⟩ | ⟨a1, a2⟩
  · subst a1
    exact R i s e h
  · exact R j t a2 m1
end

/-! ### what a def is worth -/
inductive Fs where
  | ret (x : Vl) (m : Option Mu) | exc (x : Xc) (m : Option Mu) | stuck
/-- a def: the list or dict that it is handed to be changed, the first argument (or none); the others -/
abbrev Fn := Option Mu → List D → Fs
def ArgAt (w : Wd) (O : Av) (H : Hp) (om : Option Mu) (ds : List D) (vs : List V) : Prop := match om with
  | none => RepL w O H ds vs
  | some m => ∃ a vs', vs = .ref a :: vs' ∧ O a ∧ MuAt w O H a m ∧ RepL w O H ds vs'
def IoB (om : Option Mu) (vs : List V) : Av := fun a => om.isSome = true ∧ vs.head? = some (.ref a)
def IoAt (w : Wd) (O : Av) (H : Hp) (om : Option Mu) (vs : List V) : Prop := match om with
  | none => True
  | some m => ∃ a, vs.head? = some (.ref a) ∧ MuAt w O H a m
structure Stay (om : Option Mu) (vs : List V) (H H' : Hp) : Prop where
  kept : ∀ a o, ¬ IoB om vs a → H a = some o → H' a = some o
  dom : ∀ a, H a ≠ none → H' a ≠ none
def RetF (w : Wd) (O : Av) (H : Hp) (om' : Option Mu) (vs : List V) (H' : Hp) (v : V) (x : Vl) : Prop := match x.2 with
  | false => Rep w O H' x.1 v ∧ IoAt w O H' om' vs
  | true => ∃ a m, v = .ref a ∧ H a = none ∧ m.is x.1 ∧ MuAt w (ins O a) H' a m ∧ IoAt w (ins O a) H' om' vs
def HoldF (w : Wd) (O : Av) (H : Hp) (om : Option Mu) (vs : List V) (Q : VK) (E : XK) : Fs → Prop
  | .ret x om' => om'.isSome = om.isSome ∧ ∀ H' v, Stay om vs H H' → RetF w O H om' vs H' v x → Q v H'
  | .exc x om' => om'.isSome = om.isSome ∧ ∀ H' cls d, Stay om vs H H' → IoAt w O H' om' vs → XcAt w O H' cls d x → E cls d H'
  | .stuck => False
def spOf (w : Wd) (k : Nat) (f : Fn) : Sp := fun vs H Q E => ∃ (O : Av) (om : Option Mu) (ds : List D), Dm O H ∧ vs.length = k ∧ ArgAt w O H om ds vs ∧ HoldF w O H om vs Q E (f om ds)

/-! ### calls -/
def mCallV (f : Fn) (ma : MA) : ME := fun ρ => (ma ρ).bind fun xs ρ1 => match f none xs with
  | .ret x none => .ok x ρ1
  | _ => .stuck
def muOf (i : Nat) (ρ : En) : Option (Sl × Mu) := (ρ[i]?).bind fun s => s.get.map fun m => (s, m)
def mCallD (f : Fn) (i : Nat) (ma : MA) : ME := fun ρ => match muOf i ρ with
  | none => .stuck
  | some _ => (ma ρ).bind fun xs ρ1 => match muOf i ρ1 with
    | none => .stuck
    | some (s, m) => match f (some m) xs with
      | .ret x (some m') => .ok x (ρ1.set i (s.put m'))
      | _ => .stuck
theorem muOf_some {i : Nat} {ρ : En} {s : Sl} {m : Mu} (h : muOf i ρ = some (s, m)) : ρ[i]? = some s ∧ s.get = some m := by
  unfold muOf at h
  cases e : ρ[i]? with
  | none => rw [e] at h; cases h
  | some t =>
    rw [e] at h
    cases q : t.get with
    | none => rw [show (some t).bind (fun s => s.get.map fun m => (s, m)) = t.get.map fun m => (t, m) from rfl, q] at h; cases h
    | some m' =>
      rw [show (some t).bind (fun s => s.get.map fun m => (s, m)) = t.get.map fun m => (t, m) from rfl, q] at h
      cases h
      exact ⟨rfl, q⟩
theorem mu_of_get {s : Sl} {m : Mu} (h : s.get = some m) : s.mu = true := by cases s <;> first | rfl | cases h
theorem mono_step {O O' : Av} {H : Hp} (h : ∀ a, O' a → O a) : Step O H O' H := ⟨fun a q => .inl (h a q), fun _ _ _ e => e, fun _ e => e⟩
section
variable {w : Wd} {W : WX} {X : Cx} {pos p : Pos} {x : Str} {e : Expr} {es : List Expr} {ta : TA} {ma : MA} {f : Fn} {k : Nat}
theorem sim_callV {E : XK} (ha : SimA w W ta ma) (hn : ∀ (ρ ρ1 : En) (xs : List D), ma ρ = .ok xs ρ1 → xs.length = k) : Sim w W (tCall (spOf w k f) [] E ta) (mCallV f ma) := fun F O ρ σ H Q hw R hh => by
  subst hw
  have hn' : ∀ xs ρ1, ma ρ = .ok xs ρ1 → xs.length = k := fun xs ρ1 e => hn ρ ρ1 xs e
  have key : Hold F W O σ H (RV F σ H) Q ((ma ρ).bind fun xs ρ1 => if xs.length = k then (match f none xs with
  | .ret x none => .ok x ρ1
  | _ => .stuck) else .stuck) := by
    unfold mCallV at hh
    cases q : ma ρ with
    | ok xs ρ1 =>
      rw [q] at hh
      show Hold F W O σ H (RV F σ H) Q (if xs.length = k then _ else _)
      rw [if_pos (hn' xs ρ1 q)]
      exact hh
    | exc x ρ1 => rw [q] at hh; exact hh
    | stuck => rw [q] at hh; exact hh
  refine ha.bind rfl R key fun xs vs ρ1 O1 H1 st1 R1 rs h1 => ?_
  split at h1
  · rename_i hk
    show spOf _ _ _ (vs ++ []) H1 Q E
    rw [List.append_nil]
    refine ⟨O1, none, xs, R1.dom, by rw [rs.length]; exact hk, rs, ?_⟩
    split at h1
    · rename_i z hz
      rw [hz]
      refine ⟨rfl, fun H' v sy rf => ?_⟩
      have g : Grow H1 H' := fun a o e => sy.kept a o (fun q => by cases q.1) e
      obtain ⟨d, b⟩ := z
      cases b with
      | false => exact h1 O1 H' v (st1.trans g.step) (R1.grow g) rf.1
      | true =>
        obtain ⟨a, m, e1, e2, e3, e4, _⟩ := rf
        exact h1 (ins O1 a) H' v (st1.trans (ins_step g e2)) (R1.guard g e2 e4.some) ⟨a, m, e1, st1.none_back e2, .inr rfl, e3, e4, R1.apart e2⟩
    · exact h1.elim
  · exact h1.elim
theorem sim_callD {E : XK} {i : Nat} (ha : SimA w W ta ma) (hn : ∀ (ρ ρ1 : En) (xs : List D), ma ρ = .ok xs ρ1 → xs.length + 1 = k) : Sim w W (tCall (spOf w k f) [] E (tCons (tVar i) ta)) (mCallD f i ma) := fun F O ρ σ H Q hw R hh => by
  subst hw
  unfold mCallD at hh
  cases q0 : muOf i ρ with
  | none => rw [q0] at hh; exact hh.elim
  | some sm =>
    rw [q0] at hh
    obtain ⟨e0, g0⟩ := muOf_some (s := sm.1) (m := sm.2) q0
    obtain ⟨a, ea, oa, _⟩ := R.muAt e0 g0
    refine ⟨.ref a, ea, ?_⟩
    have key : Hold F W O σ H (RV F σ H) Q ((ma ρ).bind fun xs ρ1 => if xs.length + 1 = k then (match muOf i ρ1 with
      | none => .stuck
      | some (s, m) => match f (some m) xs with
        | .ret x (some m') => .ok x (ρ1.set i (s.put m'))
        | _ => .stuck) else .stuck) := by
      cases q : ma ρ with
      | ok xs ρ1 =>
        rw [q] at hh
        show Hold F W O σ H (RV F σ H) Q (if xs.length + 1 = k then _ else _)
        rw [if_pos (hn ρ ρ1 xs q)]
        exact hh
      | exc x ρ1 => rw [q] at hh; exact hh
      | stuck => rw [q] at hh; exact hh
    refine ha.bind rfl R key fun xs vs ρ1 O1 H1 st1 R1 rs h1 => ?_
    split at h1
    · rename_i hk
      split at h1
      · exact h1.elim
      · rename_i s m q1
        obtain ⟨e1, g1⟩ := muOf_some q1
        obtain ⟨a', ea', oa', ma'⟩ := R1.muAt e1 g1
        rw [ea] at ea'
        cases ea'
        show spOf _ _ _ ((.ref a :: vs) ++ []) H1 Q E
        rw [List.append_nil]
        refine ⟨O1, some m, xs, R1.dom, by simp [rs.length, hk], ⟨a, vs, rfl, oa', ma', rs⟩, ?_⟩
        split at h1
        · rename_i z m' hz
          rw [hz]
          refine ⟨rfl, fun H' v sy rf => ?_⟩
          have hk : ∀ b o, b ≠ a → H1 b = some o → H' b = some o := fun b o n e => sy.kept b o (fun q => n (by have := q.2; simp at this; exact this.symm)) e
          obtain ⟨d, b⟩ := z
          cases b with
          | false =>
            obtain ⟨r1, a2, ha2, r2⟩ := rf
            cases (show some (V.ref a) = some (.ref a2) from ha2)
            have st2 : Step O1 H1 O1 H' := ⟨fun _ q => .inl q, fun b o n e => hk b o (fun z => n (by rw [z]; exact oa')) e, sy.dom⟩
            exact h1 O1 H' v (st1.trans st2) (R1.mutG e1 g1 ea hk st2 (fun _ q => q) (fun b q => sy.dom b (R1.dom b q)) r2) r1
          | true =>
            obtain ⟨c, m2, e2, e3, e4, e5, a2, ha2, r2⟩ := rf
            cases (show some (V.ref a) = some (.ref a2) from ha2)
            have st2 : Step O1 H1 (ins O1 c) H' := ⟨fun b q => q.elim .inl fun e => .inr (by rw [e]; exact e3), fun b o n e => hk b o (fun z => n (by rw [z]; exact oa')) e, sy.dom⟩
            refine h1 (ins O1 c) H' v (st1.trans st2) (R1.mutG e1 g1 ea hk st2 (fun _ q => .inl q) (fun b q => q.elim (fun q => sy.dom b (R1.dom b q)) fun z => by rw [z]; exact e5.some) r2) ?_
            exact ⟨c, m2, e2, st1.none_back e3, .inr rfl, e4, e5, (R1.apart e3).put e1 (mu_of_get g1)⟩
        · exact h1.elim
    · exact h1.elim
end
end PM

/-! The layer's promise of a def, for callers under whom no repr is running: repr of a list, a tuple, a dict can be told exactly then. -/
namespace PM
open PySem PySem.Spec PyProof.Rows L2

structure FnG (P : Program) (wo : World) (K : PySem.W.Frag) (mg : Str → Option Value) (base : Heap) (Z : CXT) (k : Nat) (f : Addr) (fd : FuncData) (ps : List Str) (sp : Sp) : Prop where
  len : ∀ vs H Q E, sp vs H Q E → vs.length = ps.length
  run : ∀ (A : Around) (out : List Env) (s : Shared) (H : Hp) (args : Args) (us : List Value) (vs : List V) (Q : VK) (E : XK), A.guards = some [] → Room k A → Env0 P wo K mg base A out s H → BindsTo s fd args (ps.zip us) → Vals vs us → sp vs H Q E →
    codeAny (model P wo) A (.call (.ref f) args) (CR Z out P wo H s Q E) s
section
variable {P : Program} {wo : World} {K : PySem.W.Frag} {mg : Str → Option Value} {base : Heap} {Z : CXT} {k j : Nat} {f : Addr} {fd : FuncData} {ps N : List Str} {sp : Sp}
theorem _root_.L2.FnOk.toG (F : FnOk P wo K mg base Z k f fd ps sp) : FnG P wo K mg base Z k f fd ps sp := ⟨F.len, fun A out s H args us vs Q E _ => F.run A out s H args us vs Q E⟩
theorem FnG.mono (F : FnG P wo K mg base Z j f fd ps sp) (h : j ≤ k) : FnG P wo K mg base Z k f fd ps sp := ⟨F.len, fun A out s H args us vs Q E hg hr => F.run A out s H args us vs Q E hg (hr.mono h)⟩
theorem fn_ofG {nm qual : Str} {pr : Arguments} {body : List Stmt} {sco : Scope} {dV kV doc pm cdv ct oc : Value} {an od : Option Addr} {osl : Array (Option Value)}
    (lk : K.lookup f = some ⟨oc, od, .func (PySem.W.fnOf nm qual pr body sco dV kV doc pm an cdv ct), osl⟩) (hcd : PySem.W.codeIn K cdv qual = true) (S : FnScope N ps sco) (len : ∀ vs H Q E, sp vs H Q E → vs.length = ps.length)
    (hbody : ∀ (A : Around) (out : List Env) (s : Shared) (H : Hp) (vs : List V) (Q : VK) (E : XK), A.guards = some [] → Room k (A.deeper (envOfC qual sco s.heap.objs.size f cdv)) → sp vs H Q E →
      ∃ t, PSs (cxOf Z P wo K mg base N qual sco f cdv A out s H E) body t ∧ t { nx := fun _ H' => Q .non H', rt := Q } (L2.start N vs) H) :
    FnG P wo K mg base Z (k + 1) f (PySem.W.fnOf nm qual pr body sco dV kV doc pm an cdv ct) ps sp := by
  refine ⟨len, fun A out s H args us vs Q E hgu hr en hbi rr hsp => ?_⟩
  have hlen := len _ _ _ _ hsp
  have old : ∀ b o, base.get? b = some o → s.heap.get? b = some o := fun b o e => (en.bs b o e).1
  have inK : K.In s.heap := en.mod.kin.keeps old
  have nol : s.heap.NoLimit := en.mod.nolimit.keeps old
  refine codeAny_call_function hr.depth (inK _ _ lk) rfl S.co S.gen rfl (PySem.W.codeRec_of inK hcd) (hbi _ _ _ _ ?_)
  refine wpAny_newFunctionEnv_cells S.kind (fun ⟨n, v⟩ hy => ?_) fun env he s1 x => ?_
  · rcases S.par n (List.of_mem_zip hy).1 with q | q
    · exact Or.inl q
    · exact Or.inr ⟨q, PySem.W.cellsFrom_some _ _ _ (Or.inl q)⟩
  · cases he
    refine ⟨nol.keeps x.toInCall.keep, codeAny_func ?_⟩
    obtain ⟨t, pt, rt⟩ := hbody A out s H vs Q E hgu (hr.deeper _) hsp
    have J0 := inv_start (CX := Z) (cd := cdv) (E := E) S hr.hd en hlen rr x
    refine wpAny_mono (pt.run [] s1 (L2.start N vs) H _ J0 rt) (fun fl s' hs => ?_) fun e s' he => he
    have close : ∀ {τ : L2.St} {H' : Hp} {v : V} {u : Value}, Inv (cxOf Z P wo K mg base N qual sco f cdv A out s H E) [] τ H' s' → RelV v u → Q v H' → CE out P wo H s Q u s' := fun {τ H' v u} J rv q => ⟨v, H', J.os, J.bare, J.base, J.hok, rv, q⟩
    cases fl with
    | ret u =>
      obtain ⟨v, τ, H', J, rv, q⟩ := hs
      exact close J rv q
    | next =>
      obtain ⟨τ, H', J, q⟩ := hs
      exact close (v := V.non) (u := Value.none) J rfl q
    | brk =>
      obtain ⟨_, _, _, q⟩ := hs
      exact q.elim
    | cont =>
      obtain ⟨_, _, _, q⟩ := hs
      exact q.elim
end
section
variable {X : Cx} {Z : CXT} {k : Nat} {f : Addr} {fd : FuncData} {ps : List Str} {sp : Sp} {E : XK} {x : Str} {p pos : Pos} {e : Expr} {es : List Expr} {t : TA}
theorem run_fnG {pins : List (Addr × Obj)} {σ : L2.St} {H : Hp} {s : Shared} {Q : VK} {us : List Value} {vs : List V} (F : FnG X.prog X.w X.K X.mg X.base Z k f fd ps sp) (hgu : X.A.guards = some []) (hr : Room k X.A) (hb : Binds X.K fd ps []) (hx : Passes Z X E)
    (I : Inv X pins σ H s) (r : Vals vs us) (h : sp vs H Q E) : wpAny (model X.prog X.w) X.A (call (.ref f) us) (EP X pins σ Q) X.xe s := by
  have hl : us.length = ps.length := r.length.symm.trans (F.len _ _ _ _ h)
  have bd : BindsTo s fd ⟨us, []⟩ (ps.zip us) := by
    have := hb s us I.kIn (by rw [List.append_nil]; exact hl)
    rw [List.append_nil] at this
    exact this
  refine wpAny_call (codeAny_mono (F.run X.A X.stack s H ⟨us, []⟩ us vs Q E hgu hr I.env0 bd r h) fun res s' hq => ?_)
  rcases res with e | fl
  · exact hx pins σ H s e s' I hq
  · cases fl with
    | ret u => exact I.after hq
    | next => exact hq.elim
    | brk => exact hq.elim
    | cont => exact hq.elim
/-- f(e, ..) -/
theorem pe_callG (F : FnG X.prog X.w X.K X.mg X.base Z k f fd ps sp) (hgu : X.A.guards = some []) (hr : Room k X.A) (hg : Gl X x) (hm : X.mg x = some (.ref f)) (hk : PySem.W.keepIn X.K (.ref f) = true) (hb : Binds X.K fd ps []) (hx : Passes Z X E) (ha : PA X (e :: es) t)
    (hdb : (x == ("__debug__" : Str)) = false := by decide) (he : starEach (e :: es) X.env = (false, eval e X.env) :: starEach es X.env := by rfl) (hpl : (backTo pos (starEach es X.env)).any (·.1) = false := by rfl) :
    PE X (.Call (.Name x p) (e :: es) [] pos) (tCall sp [] E t) := by
  refine ⟨fun pins s σ H Q I hw => wpAny_Call_Name_kw (ld_glob I hg hm ?_ hdb)⟩
  refine PySem.W.callWith_K (h₀ := X.base) I.ok.mod.kin hk (thn (ha.run pos pins s σ H _ I hw) fun us s1 hh => ?_) he hpl
  obtain ⟨vs, H1, I1, r, q⟩ := hh
  have q : sp (vs ++ []) H1 Q E := q
  rw [List.append_nil] at q
  exact ⟨I1.kIn, run_fnG F hgu hr hb hx I1 r q⟩
theorem pe_call0G (F : FnG X.prog X.w X.K X.mg X.base Z k f fd ps sp) (hgu : X.A.guards = some []) (hr : Room k X.A) (hg : Gl X x) (hm : X.mg x = some (.ref f)) (hk : PySem.W.keepIn X.K (.ref f) = true) (hb : Binds X.K fd ps []) (hx : Passes Z X E)
    (hdb : (x == ("__debug__" : Str)) = false := by decide) : PE X (.Call (.Name x p) [] [] pos) (tCall sp [] E tNil) := by
  refine ⟨fun pins s σ H Q I hw => wpAny_Call_Name_kw (ld_glob I hg hm ?_ hdb)⟩
  exact PySem.W.callWith_K0 I.kIn hk (run_fnG (us := []) (vs := []) F hgu hr hb hx I .nil hw)
end
end PM

namespace PM
open PySem PySem.Spec PyProof.Rows L2

/-! ### a def's worth by its body -/
def ioOf (om : Option Mu) (ρ : En) : Option (Option Mu) := match om with
  | none => some none
  | some _ => match (ρ[(0 : Nat)]? : Option Sl) with
    | some (.io m) => some (some m)
    | _ => none
def pre0 : Option Mu → En
  | none => []
  | some m => [.io m]
def en0 (n : Nat) (om : Option Mu) (ds : List D) : En := (pre0 om ++ ds.map Sl.val) ++ List.replicate (n - ((pre0 om).length + ds.length)) .non
def fnSem (n k : Nat) (body : MS) : Fn := fun om ds => if (pre0 om).length + ds.length = k then (match body (en0 n om ds) with
  | .ok (.rt x) ρ => (match ioOf om ρ with
    | some m => .ret x m
    | none => .stuck)
  | .ok .nx ρ => (match ioOf om ρ with
    | some m => .ret (.non, false) m
    | none => .stuck)
  | .exc x ρ => (match ioOf om ρ with
    | some m => .exc x m
    | none => .stuck)
  | _ => .stuck) else .stuck
/-- no error leaves it -/
def noX (f : Fn) : Fn := fun om ds => match f om ds with
  | .ret x m => .ret x m
  | _ => .stuck
theorem RepL.get {w : Wd} {O : Av} {H : Hp} : ∀ {ds : List D} {vs : List V} {i : Nat} {d : D}, RepL w O H ds vs → ds[i]? = some d → ∃ v, vs[i]? = some v ∧ Rep w O H d v
  | [], vs, i, d, h, e => by simp at e
  | d :: ds, vs, i, d', h, e => by
    simp only [RepL] at h
    obtain ⟨u, us, rfl, h1, h2⟩ := h
    cases i with
    | zero =>
      have z : d = d' := by simpa using e
      subst z
      exact ⟨u, rfl, h1⟩
    | succ i =>
      obtain ⟨v, e', h'⟩ := RepL.get (i := i) h2 (by simpa using e)
      exact ⟨v, by simpa using e', h'⟩
theorem start_get {N : List Str} {vs : List V} {i : Nat} {v : V} (e : vs[i]? = some v) : (start N vs)[i]? = some (some v) := by
  unfold L2.start
  rw [List.getElem?_append_left (by rw [List.length_map]; exact lt_of_get e), List.getElem?_map, e]
  rfl
theorem start_len {N : List Str} {vs : List V} (h : vs.length ≤ N.length) : (start N vs).length = N.length := by
  unfold L2.start
  simp
  omega
theorem rep_get {α : Type} {n i : Nat} {x y : α} (h : (List.replicate n x)[i]? = some y) : y = x := by
  rw [List.getElem?_replicate] at h
  split at h
  · cases h; rfl
  · cases h
section
variable {w : Wd} {N : List Str} {vs : List V} {H : Hp} {O : Av} {om : Option Mu} {ds : List D}
theorem pre_len (h : ArgAt w O H om ds vs) : (pre0 om).length + ds.length = vs.length := by
  cases om with
  | none =>
    have z : RepL w O H ds vs := h
    simp [pre0, z.length]
  | some m =>
    obtain ⟨a, vs', rfl, _, _, z⟩ := h
    simp [pre0, z.length]
    omega
theorem pre_get (h : ArgAt w O H om ds vs) {i : Nat} {s : Sl} (e : (pre0 om ++ ds.map Sl.val)[i]? = some s) : ∃ v, vs[i]? = some v ∧ ((∃ d, s = .val d ∧ Rep w O H d v) ∨ ∃ m a, s = .io m ∧ om = some m ∧ i = 0 ∧ v = .ref a ∧ O a ∧ MuAt w O H a m) := by
  cases om with
  | none =>
    have z : RepL w O H ds vs := h
    have e : (ds.map Sl.val)[i]? = some s := by simpa [pre0] using e
    rw [List.getElem?_map] at e
    cases q : ds[i]? with
    | none => rw [q] at e; cases e
    | some d =>
      rw [q] at e
      cases e
      obtain ⟨v, e1, e2⟩ := z.get q
      exact ⟨v, e1, .inl ⟨d, rfl, e2⟩⟩
  | some m =>
    obtain ⟨a, vs', rfl, ha, hm, z⟩ := h
    cases i with
    | zero =>
      have e : Sl.io m = s := by simpa [pre0] using e
      subst e
      exact ⟨.ref a, rfl, .inr ⟨m, a, rfl, rfl, rfl, rfl, ha, hm⟩⟩
    | succ i =>
      have e : (ds.map Sl.val)[i]? = some s := by simpa [pre0] using e
      rw [List.getElem?_map] at e
      cases q : ds[i]? with
      | none => rw [q] at e; cases e
      | some d =>
        rw [q] at e
        cases e
        obtain ⟨v, e1, e2⟩ := z.get q
        exact ⟨v, by simpa using e1, .inl ⟨d, rfl, e2⟩⟩
theorem en0_get (h : ArgAt w O H om ds vs) {n i : Nat} {s : Sl} (e : (en0 n om ds)[i]? = some s) : s = .non ∨ ∃ v, vs[i]? = some v ∧ ((∃ d, s = .val d ∧ Rep w O H d v) ∨ ∃ m a, s = .io m ∧ om = some m ∧ i = 0 ∧ v = .ref a ∧ O a ∧ MuAt w O H a m) := by
  unfold en0 at e
  by_cases hl : i < (pre0 om ++ ds.map Sl.val).length
  · rw [List.getElem?_append_left hl] at e
    exact .inr (pre_get h e)
  · rw [List.getElem?_append_right (by omega)] at e
    exact .inl (rep_get e)
theorem rel_start (dm : Dm O H) (hn : vs.length ≤ N.length) (h : ArgAt w O H om ds vs) : Rel ⟨w, O, fun i a => i = 0 ∧ IoB om vs a, H⟩ O (en0 N.length om ds) (start N vs) H := by
  refine ⟨?_, fun _ q => q, fun a q => dm a q, fun i a q => ?_, dm, fun _ q => q, fun a o q _ => q, fun i s e => ?_, fun i j s t e1 e2 m1 m2 q => ?_⟩
  · rw [start_len hn]
    unfold en0
    have := pre_len h
    simp
    omega
  · cases om with
    | none => exact absurd q.2.1 (by simp)
    | some m =>
      obtain ⟨b, vs', rfl, hb, _⟩ := h
      have z := q.2.2
      simp at z
      show O a
      rw [← z]
      exact hb
  · rcases en0_get h e with rfl | ⟨v, e1, ⟨d, rfl, hd⟩ | ⟨m, a, rfl, rfl, rfl, rfl, ha, hm⟩⟩
    · trivial
    · exact ⟨v, start_get e1, hd⟩
    · refine ⟨a, start_get e1, ⟨rfl, rfl, ?_⟩, hm⟩
      cases vs with
      | nil => simp at e1
      | cons b r => simpa using e1
  · have k : ∀ {i : Nat} {s : Sl}, (en0 N.length om ds)[i]? = some s → s.mu = true → i = 0 := fun {i s} e m => by
      rcases en0_get h e with rfl | ⟨v, e1, ⟨d, rfl, hd⟩ | ⟨m, a, rfl, rfl, rfl, rfl, ha, hm⟩⟩
      · cases m
      · cases m
      · rfl
    rw [k e1 m1, k e2 m2]
/-- the contents of what it was handed, at the end -/
theorem io_end {O' : Av} {ρ' : En} {σ' : L2.St} {H' : Hp} {om' : Option Mu} (R : Rel ⟨w, O, fun i a => i = 0 ∧ IoB om vs a, H⟩ O' ρ' σ' H') (e : ioOf om ρ' = some om') : om'.isSome = om.isSome ∧ ∀ O1 : Av, (∀ a, O1 a → O' a) → IoAt w O1 H' om' vs := by
  cases om with
  | none =>
    cases e
    exact ⟨rfl, fun _ _ => trivial⟩
  | some m =>
    unfold ioOf at e
    simp only at e
    split at e
    · rename_i m' q
      cases e
      obtain ⟨a, e1, e2, e3⟩ := R.slot 0 _ q
      exact ⟨rfl, fun O1 h => ⟨a, e2.2.2, e3.step (mono_step h) rfl⟩⟩
    · cases e
theorem stay_end {O' : Av} {ρ' : En} {σ' : L2.St} {H' : Hp} (R : Rel ⟨w, O, fun i a => i = 0 ∧ IoB om vs a, H⟩ O' ρ' σ' H') : Stay om vs H H' := ⟨fun a o n e => R.keep a o e fun i q => n q.2, fun a e => R.doh a e⟩
theorem body_ok {W : WX} {ts : TS} {m : MS} {k : Nat} {Q : VK} {E : XK} (hs : SimS w W ts m) (hW : ∀ cls d σ H, E cls d H → W cls d σ H) (hk : k ≤ N.length) (h : spOf w k (fnSem N.length k m) vs H Q E) : ts { nx := fun _ H' => Q .non H', rt := Q } (start N vs) H := by
  obtain ⟨O, om, ds, dm, hl, ha, hh⟩ := h
  refine hs _ O (en0 N.length om ds) (start N vs) H _ rfl (rel_start dm (by omega) ha) ?_
  unfold fnSem at hh
  rw [if_pos ((pre_len ha).trans hl)] at hh
  cases q : m (en0 N.length om ds) with
  | stuck => rw [q] at hh; exact hh
  | exc x ρ' =>
    rw [q] at hh
    simp only at hh
    intro O' σ' H' cls d st R xa
    cases qi : ioOf om ρ' with
    | none => rw [qi] at hh; exact hh.elim
    | some om' =>
      rw [qi] at hh
      obtain ⟨i1, i2⟩ := io_end R qi
      refine hW _ _ _ _ (hh.2 H' cls d (stay_end R) (i2 O R.b0) ?_)
      cases x with
      | own c fs =>
        cases fs with
        | nil => exact xa
        | cons f fs =>
          obtain ⟨x1, a, vs1, x2, x3, x4, x5⟩ := xa
          exact ⟨x1, a, vs1, x2, fun q => x3 (R.b0 a q), x4, RepL.step (mono_step R.b0) _ _ x5⟩
      | ty n => exact xa
  | ok f ρ' =>
    rw [q] at hh
    cases f with
    | bk => exact hh.elim
    | ct => exact hh.elim
    | nx =>
      simp only at hh
      intro O' σ' H' st R
      cases qi : ioOf om ρ' with
      | none => rw [qi] at hh; exact hh.elim
      | some om' =>
        rw [qi] at hh
        obtain ⟨i1, i2⟩ := io_end R qi
        exact hh.2 H' .non (stay_end R) ⟨by simp only [Rep], i2 O R.b0⟩
    | rt x =>
      simp only at hh
      intro O' σ' H' v st R rv
      cases qi : ioOf om ρ' with
      | none => rw [qi] at hh; exact hh.elim
      | some om' =>
        rw [qi] at hh
        obtain ⟨i1, i2⟩ := io_end R qi
        refine hh.2 H' v (stay_end R) ?_
        obtain ⟨d, b⟩ := x
        cases b with
        | false => exact ⟨Rep.step (mono_step R.b0) _ _ rv, i2 O R.b0⟩
        | true =>
          obtain ⟨a, mm, e1, e2, e3, e4, e5⟩ := rv
          have sub : ∀ b, ins O a b → O' b := fun b q => q.elim (R.b0 b) fun z => by rw [z]; exact e3
          exact ⟨a, mm, e1, e2, e4, e5.step (mono_step sub) rfl, i2 _ sub⟩
end

/-! ### defs -/
def W0 : WX := fun _ _ _ _ => False
/-- a def's promise; g: under callers below whom no repr runs -/
def FnP (g : Bool) (P : Program) (wo : World) (K : PySem.W.Frag) (mg : Str → Option Value) (base : Heap) (j : Nat) (f : Addr) (fd : FuncData) (ps : List Str) (sp : Sp) : Prop := match g with
  | true => FnG P wo K mg base CX0 j f fd ps sp
  | false => FnOk P wo K mg base CX0 j f fd ps sp
/-- where a def of the module stands, and what it is worth -/
def DefOk (g : Bool) (P : Program) (wo : World) (K : PySem.W.Frag) (mg : Str → Option Value) (base : Heap) (w : Wd) (x : Str) (n j : Nat) (f : Fn) : Prop :=
  ∃ a fd ps, ps.length = n ∧ FnP g P wo K mg base j a fd ps (spOf w n f) ∧ mg x = some (.ref a) ∧ PySem.W.keepIn K (.ref a) = true ∧ Binds K fd ps []
section
variable {P : Program} {wo : World} {K : PySem.W.Frag} {mg : Str → Option Value} {base : Heap} {w : Wd}
theorem noX_hold {f : Fn} {vs : List V} {H : Hp} {Q : VK} {E E' : XK} {k : Nat} (h : spOf w k (noX f) vs H Q E) : spOf w k f vs H Q E' := by
  obtain ⟨O, om, ds, dm, hl, ha, hh⟩ := h
  refine ⟨O, om, ds, dm, hl, ha, ?_⟩
  unfold noX at hh
  cases q : f om ds with
  | ret x m => rw [q] at hh; exact hh
  | exc x m => rw [q] at hh; exact hh.elim
  | stuck => rw [q] at hh; exact hh.elim
/-- a def that no error leaves -/
theorem fn_ok0 (g : Bool) {x qual : Str} {st : Stmt} {f : Addr} {fd : FuncData} {N ps : List Str} {k : Nat} {m : MS} (F : Fun K x qual st f fd) (S : FnScope N ps (defScope st)) (hl : ps.length ≤ N.length)
    (hb : ∀ (cdv : Value) (A : Around) (outer : List Env) (s : Shared) (H : Hp) (E : XK), (g = true → A.guards = some []) → Room k (A.deeper (envOfC qual (defScope st) s.heap.objs.size f cdv)) →
      PMSs (cxOf CX0 P wo K mg base N qual (defScope st) f cdv A outer s H E).nox w W0 (defBody st) m) : FnP g P wo K mg base (k + 1) f fd ps (spOf w ps.length (noX (fnSem N.length ps.length m))) := by
  have len : ∀ vs H Q E, spOf w ps.length (noX (fnSem N.length ps.length m)) vs H Q E → vs.length = ps.length := fun vs H Q E h => by
    obtain ⟨O, om, ds, _, hl, _⟩ := h
    exact hl
  cases g with
  | true =>
    obtain ⟨oc, od, kV, doc, pm, an, cdv, ct, osl, rfl, lk, hcd⟩ := F.ex
    refine fn_ofG lk hcd S len fun A outer s H vs Q E hgu hr h => ?_
    obtain ⟨t, p, sm⟩ := hb cdv A outer s H E (fun _ => hgu) hr
    exact ⟨t, p.nox, body_ok (E := fun _ _ _ => False) sm (fun _ _ _ _ z => z) hl (noX_hold h)⟩
  | false =>
    refine F.ok S len fun cdv A outer s H vs Q E hr h => ?_
    obtain ⟨t, p, sm⟩ := hb cdv A outer s H E (fun z => by cases z) hr
    exact ⟨t, p, body_ok (E := fun _ _ _ => False) sm (fun _ _ _ _ z => z) hl (noX_hold h)⟩
theorem def_zero (g : Bool) {x : Str} {n : Nat} {f : Fn} {a : Addr} {fd : FuncData} {ps : List Str} (hf : ∀ om ds, f om ds = .stuck) (hl : ps.length = n) (hm : mg x = some (.ref a)) (hk : PySem.W.keepIn K (.ref a) = true) (hb : Binds K fd ps []) : DefOk g P wo K mg base w x n 0 f := by
  have no : ∀ vs H Q E, spOf w n f vs H Q E → False := fun vs H Q E h => by
    obtain ⟨O, om, ds, _, _, _, hh⟩ := h
    rw [hf] at hh
    exact hh
  refine ⟨a, fd, ps, hl, ?_, hm, hk, hb⟩
  cases g with
  | true => exact ⟨fun vs H Q E h => (no _ _ _ _ h).elim, fun A outer s H args us vs Q E hgu hr he hbb hv h => (no _ _ _ _ h).elim⟩
  | false => exact ⟨fun vs H Q E h => (no _ _ _ _ h).elim, fun A outer s H args us vs Q E hr he hbb hv h => (no _ _ _ _ h).elim⟩
theorem DefOk.mono {g : Bool} {x : Str} {n i j : Nat} {f : Fn} (h : DefOk g P wo K mg base w x n i f) (hij : i ≤ j) : DefOk g P wo K mg base w x n j f := by
  obtain ⟨a, fd, ps, h1, h2, h3⟩ := h
  refine ⟨a, fd, ps, h1, ?_, h3⟩
  cases g with
  | true => exact FnG.mono h2 hij
  | false => exact FnOk.mono h2 hij
end
/-! ### calls of defs -/
def Len (ma : MA) (n : Nat) : Prop := ∀ (ρ ρ1 : En) (xs : List D), ma ρ = .ok xs ρ1 → xs.length = n
theorem len_nil : Len mNil 0 := fun ρ ρ1 xs e => by
  cases e
  rfl
theorem len_cons {a : ME} {r : MA} {n : Nat} (h : Len r n) : Len (mCons a r) (n + 1) := fun ρ ρ1 xs e => by
  unfold mCons at e
  cases q : a ρ with
  | stuck => rw [q] at e; cases e
  | exc x ρ2 => rw [q] at e; cases e
  | ok x ρ2 =>
    rw [q] at e
    have e : (r ρ2).bind (fun xs ρ3 => Rs.ok (x.1 :: xs) ρ3) = .ok xs ρ1 := e
    cases q2 : r ρ2 with
    | stuck => rw [q2] at e; cases e
    | exc x ρ2 => rw [q2] at e; cases e
    | ok ys ρ3 =>
      rw [q2] at e
      cases e
      simp [h ρ2 _ ys q2]
section
variable {w : Wd} {W : WX} {X : Cx} {pos p p' : Pos} {x y : Str} {e : Expr} {es : List Expr} {ma : MA} {f : Fn} {n j : Nat}
theorem pm_call {g : Bool} (F : DefOk g X.prog X.w X.K X.mg X.base w x n j f) (hgu : g = true → X.A.guards = some []) (hr : Room j X.A) (hg : Gl X x) (ha : PMA X w W (e :: es) ma) (hn : Len ma n) (hd : (x == ("__debug__" : Str)) = false := by decide) (he : starEach (e :: es) X.env = (false, eval e X.env) :: starEach es X.env := by rfl) (hpl : (backTo pos (starEach es X.env)).any (·.1) = false := by rfl) :
    PM X w W (.Call (.Name x p) (e :: es) [] pos) (mCallV f ma) := by
  obtain ⟨a, fd, ps, hl, F, hm, hk, hb⟩ := F
  obtain ⟨ta, pa, sa⟩ := ha
  cases g with
  | true => exact ⟨_, pe_callG F (hgu rfl) hr hg hm hk hb pass0 pa hd he hpl, sim_callV sa hn⟩
  | false => exact ⟨_, pe_call F hr hg hm hk hb .nil pass0 pa hd he hpl, sim_callV sa hn⟩
theorem pm_call0 {g : Bool} (F : DefOk g X.prog X.w X.K X.mg X.base w x 0 j f) (hgu : g = true → X.A.guards = some []) (hr : Room j X.A) (hg : Gl X x) (hd : (x == ("__debug__" : Str)) = false := by decide) : PM X w W (.Call (.Name x p) [] [] pos) (mCallV f mNil) := by
  obtain ⟨a, fd, ps, hl, F, hm, hk, hb⟩ := F
  have sm := sim_callV (w := w) (W := W) (f := f) (ta := tNil) (E := E0) sima_nil len_nil
  cases g with
  | true => exact ⟨_, pe_call0G F (hgu rfl) hr hg hm hk hb pass0 hd, sm⟩
  | false => exact ⟨_, pe_call0 F hr hg hm hk hb .nil pass0 hd, sm⟩
/-- f(y, ..), y a list or dict that f may change -/
theorem pm_callD (i : Nat) {g : Bool} (F : DefOk g X.prog X.w X.K X.mg X.base w x (n + 1) j f) (hgu : g = true → X.A.guards = some []) (hr : Room j X.A) (hg : Gl X x) (ha : PMA X w W es ma) (hn : Len ma n) (hN : X.N[i]? = some y := by rfl) (hv : Vis X.env.scope y := by first | exact Or.inl rfl | exact Or.inr (Or.inl rfl) | exact Or.inr (Or.inr rfl)) (hd : (x == ("__debug__" : Str)) = false := by decide)
    (hdy : (y == ("__debug__" : Str)) = false := by decide) (hcd : (y == ("__classdict__" : Str)) = false := by decide) (he : starEach (.Name y p' :: es) X.env = (false, eval (.Name y p') X.env) :: starEach es X.env := by rfl) (hpl : (backTo pos (starEach es X.env)).any (·.1) = false := by rfl) :
    PM X w W (.Call (.Name x p) (.Name y p' :: es) [] pos) (mCallD f i ma) := by
  obtain ⟨a, fd, ps, hl, F, hm, hk, hb⟩ := F
  obtain ⟨ta, pa, sa⟩ := ha
  have sm := sim_callD (w := w) (W := W) (f := f) (E := E0) (i := i) (k := n + 1) sa fun ρ ρ1 xs q => by rw [hn ρ ρ1 xs q]
  cases g with
  | true => exact ⟨_, pe_callG F (hgu rfl) hr hg hm hk hb pass0 (pa_cons (pv i hN hv hdy hcd) pa he) hd he hpl, sm⟩
  | false => exact ⟨_, pe_call F hr hg hm hk hb .nil pass0 (pa_cons (pv i hN hv hdy hcd) pa he) hd he hpl, sm⟩
end
end PM

namespace PM
open PySem L2

def dI (i : Int) : Vl := (.int i, false)
def dB (b : Bool) : Vl := (.bl b, false)
def dS (x : Str) : Vl := (.str x, false)
section
variable {w : Wd} {O : Av} {H : Hp}
theorem Go.int {i : Int} {Q : VK} (g : Go w O H (dI i) Q) : Q (.int i) H := Go.val (d := .int i) g (by simp only [Rep])
theorem Go.bl {i : Bool} {Q : VK} (g : Go w O H (dB i) Q) : Q (.bl i) H := Go.val (d := .bl i) g (by simp only [Rep])
theorem Go.str {i : Str} {Q : VK} (g : Go w O H (dS i) Q) : Q (.str i) H := Go.val (d := .str i) g (by simp only [Rep])
theorem RepL.append : ∀ {xs ys : List D} {vs us : List V}, RepL w O H xs vs → RepL w O H ys us → RepL w O H (xs ++ ys) (vs ++ us)
  | [], ys, vs, us, h, k => by
    simp only [RepL] at h
    subst h
    exact k
  | x :: xs, ys, vs, us, h, k => by
    simp only [RepL] at h
    obtain ⟨v, vs', rfl, h1, h2⟩ := h
    show RepL w O H (x :: (xs ++ ys)) (v :: (vs' ++ us))
    simp only [RepL]
    exact ⟨v, _, rfl, h1, RepL.append h2 k⟩
theorem RepL.nil_iff {xs : List D} {vs : List V} (h : RepL w O H xs vs) : vs = [] ↔ xs = [] := by
  have := h.length
  constructor
  · intro e; subst e; exact List.length_eq_zero_iff.mp this.symm
  · intro e; subst e; exact List.length_eq_zero_iff.mp this
end

/-! ### numbers -/
def int2 (g : Int → Int → Vl) : D → D → Option Vl
  | .int i, .int j => some (g i j)
  | _, _ => none
def int2c (C : Int → Int → Bool) (g : Int → Int → Vl) : D → D → Option Vl
  | .int i, .int j => if C i j = true then some (g i j) else none
  | _, _ => none
theorem int2_some {g : Int → Int → Vl} {x y : D} {z : Vl} (h : int2 g x y = some z) : ∃ i j, x = .int i ∧ y = .int j ∧ z = g i j := by
  unfold int2 at h
  split at h
  · cases h; exact ⟨_, _, rfl, rfl, rfl⟩
  · cases h
theorem int2c_some {C : Int → Int → Bool} {g : Int → Int → Vl} {x y : D} {z : Vl} (h : int2c C g x y = some z) : ∃ i j, x = .int i ∧ y = .int j ∧ C i j = true ∧ z = g i j := by
  unfold int2c at h
  split at h
  · split at h
    · cases h; exact ⟨_, _, rfl, rfl, by assumption, rfl⟩
    · cases h
  · cases h
section
variable {w : Wd}
theorem o2_intI (g : Int → Int → Int) : Op2 w (rI0 fun i j => .int (g i j)) (int2 fun i j => dI (g i j)) := fun O H x y z vx vy Q dm e hx hy k => by
  obtain ⟨i, j, rfl, rfl, rfl⟩ := int2_some e
  exact ⟨i, j, rep_int hx, rep_int hy, k.int⟩
theorem o2_intB (g : Int → Int → Bool) : Op2 w (rI0 fun i j => .bl (g i j)) (int2 fun i j => dB (g i j)) := fun O H x y z vx vy Q dm e hx hy k => by
  obtain ⟨i, j, rfl, rfl, rfl⟩ := int2_some e
  exact ⟨i, j, rep_int hx, rep_int hy, k.bl⟩
theorem o2_intC {C : Int → Int → Prop} {c : Int → Int → Bool} (g : Int → Int → Int) (hc : ∀ i j, c i j = true → C i j) : Op2 w (rI C fun i j => .int (g i j)) (int2c c fun i j => dI (g i j)) := fun O H x y z vx vy Q dm e hx hy k => by
  obtain ⟨i, j, rfl, rfl, h, rfl⟩ := int2c_some e
  exact ⟨i, j, rep_int hx, rep_int hy, hc i j h, k.int⟩
end
def subD : D → D → Option Vl := int2 fun i j => dI (i - j)
def mulC (i j : Int) : Bool := decide (i.natAbs.log2 + j.natAbs.log2 < 1000000)
def mulD : D → D → Option Vl := int2c mulC fun i j => dI (i * j)
def modC (_ j : Int) : Bool := decide (0 < j)
def modD : D → D → Option Vl := int2c modC fun i j => dI (i % j)
def divC (_ j : Int) : Bool := decide (0 < j ∧ j.natAbs.log2 < 9000)
def divD : D → D → Option Vl := int2c divC fun i j => dI (i / j)
def powC (i j : Int) : Bool := decide (0 ≤ j ∧ j ≤ 1000000 ∧ i.natAbs < 2 ^ 64)
def powD : D → D → Option Vl := int2c powC fun i j => dI (i ^ j.toNat)
def ltI : D → D → Option Vl := int2 fun i j => dB (decide (i < j))
def leI : D → D → Option Vl := int2 fun i j => dB (decide (i ≤ j))
def gtI : D → D → Option Vl := int2 fun i j => dB (decide (j < i))
def geI : D → D → Option Vl := int2 fun i j => dB (decide (j ≤ i))
section
variable {w : Wd} {W : WX} {X : Cx} {pos : Pos} {a b : Expr} {ma mb : ME}
theorem pm_sub (ha : PM X w W a ma) (hb : PM X w W b mb) : PM X w W (.BinOp a .Sub b pos) (mOp2 subD ma mb) := pm_bin op_sub (o2_intI fun i j => i - j) ha hb
theorem pm_mul (ha : PM X w W a ma) (hb : PM X w W b mb) : PM X w W (.BinOp a .Mult b pos) (mOp2 mulD ma mb) := pm_bin op_mulW (o2_intC (c := mulC) (fun i j => i * j) fun i j h => by unfold mulC at h; unfold CMulW; exact of_decide_eq_true h) ha hb
theorem pm_mod (ha : PM X w W a ma) (hb : PM X w W b mb) : PM X w W (.BinOp a .Mod b pos) (mOp2 modD ma mb) := pm_bin op_mod (o2_intC (c := modC) (fun i j => i % j) fun i j h => by unfold modC at h; exact of_decide_eq_true h) ha hb
theorem pm_div (ha : PM X w W a ma) (hb : PM X w W b mb) : PM X w W (.BinOp a .FloorDiv b pos) (mOp2 divD ma mb) := pm_bin op_fdivW (o2_intC (c := divC) (fun i j => i / j) fun i j h => by unfold divC at h; unfold CDivW; exact of_decide_eq_true h) ha hb
theorem pm_pow (ha : PM X w W a ma) (hb : PM X w W b mb) : PM X w W (.BinOp a .Pow b pos) (mOp2 powD ma mb) := pm_bin op_pow (o2_intC (c := powC) (fun i j => i ^ j.toNat) fun i j h => by unfold powC at h; unfold CPow; exact of_decide_eq_true h) ha hb
theorem pm_lt (ha : PM X w W a ma) (hb : PM X w W b mb) : PM X w W (.Compare a [.Lt] [b] pos) (mOp2 ltI ma mb) := pm_cmp op_lt (o2_intB fun i j => decide (i < j)) ha hb (nomark _)
theorem pm_le (ha : PM X w W a ma) (hb : PM X w W b mb) : PM X w W (.Compare a [.LtE] [b] pos) (mOp2 leI ma mb) := pm_cmp op_le (o2_intB fun i j => decide (i ≤ j)) ha hb (nomark _)
theorem pm_gt (ha : PM X w W a ma) (hb : PM X w W b mb) : PM X w W (.Compare a [.Gt] [b] pos) (mOp2 gtI ma mb) := pm_cmp op_gt (o2_intB fun i j => decide (j < i)) ha hb (nomark _)
theorem pm_ge (ha : PM X w W a ma) (hb : PM X w W b mb) : PM X w W (.Compare a [.GtE] [b] pos) (mOp2 geI ma mb) := pm_cmp op_ge (o2_intB fun i j => decide (j ≤ i)) ha hb (nomark _)
theorem pmt_lt (ha : PM X w W a ma) (hb : PM X w W b mb) : PMT X w W (.Compare a [.Lt] [b] pos) (mTest (mOp2 ltI ma mb)) := pmt_cmp op_lt (o2_intB fun i j => decide (i < j)) ha hb (nomark _)
theorem pmt_le (ha : PM X w W a ma) (hb : PM X w W b mb) : PMT X w W (.Compare a [.LtE] [b] pos) (mTest (mOp2 leI ma mb)) := pmt_cmp op_le (o2_intB fun i j => decide (i ≤ j)) ha hb (nomark _)
theorem pmt_gt (ha : PM X w W a ma) (hb : PM X w W b mb) : PMT X w W (.Compare a [.Gt] [b] pos) (mTest (mOp2 gtI ma mb)) := pmt_cmp op_gt (o2_intB fun i j => decide (j < i)) ha hb (nomark _)
theorem pmt_ge (ha : PM X w W a ma) (hb : PM X w W b mb) : PMT X w W (.Compare a [.GtE] [b] pos) (mTest (mOp2 geI ma mb)) := pmt_cmp op_ge (o2_intB fun i j => decide (j ≤ i)) ha hb (nomark _)
end

/-! ### + -/
def addD : D → D → Option Vl
  | .int i, .int j => some (dI (i + j))
  | .str a, .str b => if a.length + b.length ≤ sizeLine then some (dS (a ++ b)) else none
  | .tup a, .tup b => if a.length + b.length ≤ sizeLine then some (.tup (a ++ b), false) else none
  | .lst a, .lst b => if a.length + b.length ≤ sizeLine then some (.lst (a ++ b), true) else none
  | _, _ => none
def rAddA (K : PySem.W.Frag) : R2 := fun x y H Q => (rI0 (fun i j => .int (i + j))) x y H Q ∨ (∃ i j, x = .str i ∧ y = .str j ∧ i.length + j.length ≤ sizeLine ∧ Q (.str (i ++ j)) H) ∨ rCatA K x y H Q ∨ rCat x y H Q
section
variable {w : Wd} {W : WX} {X : Cx} {pos : Pos} {a b : Expr} {ma mb : ME}
theorem op_addA : OpR X (binaryOp .Add) (rAddA X.K) := op_add.or (op_add_str.or (op_catA.or op_cat))
theorem o2_add : Op2 w (rAddA w.K) addD := fun O H x y z vx vy Q dm e hx hy k => by
  unfold addD at e
  split at e
  · cases e
    exact .inl ⟨_, _, rep_int hx, rep_int hy, k.int⟩
  · split at e
    · cases e
      exact .inr (.inl ⟨_, _, rep_str hx, rep_str hy, by assumption, k.str⟩)
    · cases e
  · split at e
    · rename_i hz
      cases e
      simp only [Rep] at hx hy
      obtain ⟨p, vs, rfl, h1, h2⟩ := hx
      obtain ⟨q, us, rfl, h3, h4⟩ := hy
      refine .inr (.inr (.inl ⟨p, q, vs, us, rfl, rfl, sq_of_rep h1, sq_of_rep h3, by rw [h2.length, h4.length]; exact hz, fun z => ?_, fun z1 z => ?_, fun z1 z2 r hr => ?_⟩))
      · have z' := h2.nil_iff.mp z
        subst z'
        exact k.val (by simp only [Rep, List.nil_append]; exact ⟨q, us, rfl, h3, h4⟩)
      · have z' := h4.nil_iff.mp z
        subst z'
        exact k.val (by simp only [Rep, List.append_nil]; exact ⟨p, vs, rfl, h1, h2⟩)
      · exact k.newT dm (h2.append h4) hr
    · cases e
  · split at e
    · rename_i hz
      cases e
      simp only [Rep] at hx hy
      obtain ⟨p, vs, rfl, h1, h2⟩ := hx
      obtain ⟨q, us, rfl, h3, h4⟩ := hy
      exact .inr (.inr (.inr ⟨p, q, vs, us, rfl, rfl, h1.2, h3.2, by rw [h2.length, h4.length]; exact hz, fun r hr => k.newL (h2.append h4) hr⟩))
    · cases e
  · cases e
theorem pm_add (hK : w.K = X.K) (ha : PM X w W a ma) (hb : PM X w W b mb) : PM X w W (.BinOp a .Add b pos) (mOp2 addD ma mb) := pm_bin op_addA (hK ▸ o2_add) ha hb
end

/-! ### ==, != of data; repr -/
mutual
def toPy : D → Option PyData
  | .non => some .none
  | .bl b => some (.bool b)
  | .int i => some (.int i)
  | .str x => some (.str x)
  | .tup ds => (toPyL ds).map .tuple
  | .lst ds => (toPyL ds).map .list
  | .scr ds => (toPyL ds).map .list
  | .dct _ _ => none
  | .obj _ _ => none
  | .cls _ => none
def toPyL : List D → Option (List PyData)
  | [] => some []
  | d :: ds => (toPy d).bind fun p => (toPyL ds).map fun ps => p :: ps
end
section
variable {w : Wd} {O : Av} {H : Hp}
mutual
theorem dp_of : ∀ (d : D) (v : V) (p : PyData), Rep w O H d v → toPy d = some p → Dp w.K H v p
  | .non, v, p, h, e => by
    simp only [Rep] at h
    simp only [toPy] at e
    cases e; subst h; exact .non
  | .bl b, v, p, h, e => by
    simp only [Rep] at h
    simp only [toPy] at e
    cases e; subst h; exact .bl b
  | .int b, v, p, h, e => by
    simp only [Rep] at h
    simp only [toPy] at e
    cases e; subst h; exact .int b
  | .str b, v, p, h, e => by
    simp only [Rep] at h
    simp only [toPy] at e
    cases e; subst h; exact .str b
  | .tup ds, v, p, h, e => by
    simp only [Rep] at h
    simp only [toPy] at e
    obtain ⟨a, vs, rfl, h1, h2⟩ := h
    cases q : toPyL ds with
    | none => rw [q] at e; cases e
    | some ps =>
      rw [q] at e
      cases e
      exact .tup (sq_of_rep h1) (dpl_of ds vs ps h2 q)
  | .lst ds, v, p, h, e => by
    simp only [Rep] at h
    simp only [toPy] at e
    obtain ⟨a, vs, rfl, h1, h2⟩ := h
    cases q : toPyL ds with
    | none => rw [q] at e; cases e
    | some ps =>
      rw [q] at e
      cases e
      exact .lst (sl_of_rep h1) (dpl_of ds vs ps h2 q)
  | .scr ds, v, p, h, e => by
    simp only [Rep] at h
    simp only [toPy] at e
    obtain ⟨a, vs, rfl, h1, h2⟩ := h
    cases q : toPyL ds with
    | none => rw [q] at e; cases e
    | some ps =>
      rw [q] at e
      cases e
      exact .lst (h1.imp (fun ⟨o, z⟩ => .inr ⟨o, z.2⟩) id) (dpl_of ds vs ps h2 q)
  | .dct _ _, v, p, h, e => by simp only [toPy] at e; cases e
  | .obj _ _, v, p, h, e => by simp only [toPy] at e; cases e
  | .cls _, v, p, h, e => by simp only [toPy] at e; cases e
theorem dpl_of : ∀ (ds : List D) (vs : List V) (ps : List PyData), RepL w O H ds vs → toPyL ds = some ps → DpAll w.K H vs ps
  | [], vs, ps, h, e => by
    simp only [RepL] at h
    simp only [toPyL] at e
    cases e; subst h; exact .nil
  | d :: ds, vs, ps, h, e => by
    simp only [RepL] at h
    simp only [toPyL] at e
    obtain ⟨v, vs', rfl, h1, h2⟩ := h
    cases q : toPy d with
    | none => rw [q] at e; cases e
    | some p =>
      rw [q] at e
      cases q2 : toPyL ds with
      | none => rw [q2] at e; cases e
      | some ps' =>
        rw [q2] at e
        cases e
        exact .cons (dp_of d v p h1 q) (dpl_of ds vs' ps' h2 q2)
end
end
def pyOk (x : D) : Option PyData := (toPy x).bind fun p => if SeqAt.shaped p = true then some p else none
theorem pyOk_some {x : D} {p : PyData} (h : pyOk x = some p) : toPy x = some p ∧ SeqAt.shaped p = true := by
  unfold pyOk at h
  cases q : toPy x with
  | none => rw [q] at h; cases h
  | some p' =>
    rw [q] at h
    have h : (if SeqAt.shaped p' = true then some p' else none) = some p := h
    split at h
    · cases h; exact ⟨rfl, by assumption⟩
    · cases h
def eqD (x y : D) : Option Vl := (pyOk x).bind fun p => (pyOk y).map fun q => dB (PyData.eqv p q)
def neD (x y : D) : Option Vl := (pyOk x).bind fun p => (pyOk y).map fun q => dB (!PyData.eqv p q)
section
variable {w : Wd} {W : WX} {X : Cx} {pos : Pos} {a b : Expr} {ma mb : ME}
theorem o2_eqD : Op2 w (rEqD w.K) eqD := fun O H x y z vx vy Q dm e hx hy k => by
  unfold eqD at e
  cases q1 : pyOk x with
  | none => rw [q1] at e; cases e
  | some p =>
    rw [q1] at e
    cases q2 : pyOk y with
    | none => rw [q2] at e; cases e
    | some q =>
      rw [q2] at e
      cases e
      obtain ⟨a1, a2⟩ := pyOk_some q1
      obtain ⟨b1, b2⟩ := pyOk_some q2
      exact ⟨p, q, dp_of x vx p hx a1, dp_of y vy q hy b1, a2, b2, k.bl⟩
theorem o2_neD : Op2 w (rNeD w.K) neD := fun O H x y z vx vy Q dm e hx hy k => by
  unfold neD at e
  cases q1 : pyOk x with
  | none => rw [q1] at e; cases e
  | some p =>
    rw [q1] at e
    cases q2 : pyOk y with
    | none => rw [q2] at e; cases e
    | some q =>
      rw [q2] at e
      cases e
      obtain ⟨a1, a2⟩ := pyOk_some q1
      obtain ⟨b1, b2⟩ := pyOk_some q2
      exact ⟨p, q, dp_of x vx p hx a1, dp_of y vy q hy b1, a2, b2, k.bl⟩
theorem pm_eq {k : Nat} (hK : w.K = X.K) (hr : Room k X.A) (ha : PM X w W a ma) (hb : PM X w W b mb) : PM X w W (.Compare a [.Eq] [b] pos) (mOp2 eqD ma mb) := pm_cmp (op_eqD hr.units) (hK ▸ o2_eqD) ha hb (nomark _)
theorem pm_ne {k : Nat} (hK : w.K = X.K) (hr : Room k X.A) (ha : PM X w W a ma) (hb : PM X w W b mb) : PM X w W (.Compare a [.NotEq] [b] pos) (mOp2 neD ma mb) := pm_cmp (op_neD hr.units) (hK ▸ o2_neD) ha hb (nomark _)
theorem pmt_eq {k : Nat} (hK : w.K = X.K) (hr : Room k X.A) (ha : PM X w W a ma) (hb : PM X w W b mb) : PMT X w W (.Compare a [.Eq] [b] pos) (mTest (mOp2 eqD ma mb)) := pmt_cmp (op_eqD hr.units) (hK ▸ o2_eqD) ha hb (nomark _)
theorem pmt_ne {k : Nat} (hK : w.K = X.K) (hr : Room k X.A) (ha : PM X w W a ma) (hb : PM X w W b mb) : PMT X w W (.Compare a [.NotEq] [b] pos) (mTest (mOp2 neD ma mb)) := pmt_cmp (op_neD hr.units) (hK ▸ o2_neD) ha hb (nomark _)
end
def one1 (f : D → Option Vl) : List D → Option Vl
  | [x] => f x
  | _ => none
def reprD (x : D) : Option Vl := (toPy x).bind fun p => if p.canLay0 = true ∧ p.showable = true ∧ p.depth < 64 ∧ p.shown.length ≤ sizeLine then some (dS p.shown) else none
def rRepr (K : PySem.W.Frag) : List V → Hp → VK → Prop := fun xs H Q => ∃ x d, xs = [x] ∧ Dp K H x d ∧ d.canLay0 = true ∧ d.showable = true ∧ d.depth < 64 ∧ d.shown.length ≤ sizeLine ∧ Q (.str d.shown) H
theorem call_repr {X : Cx} (hgu : X.A.guards = some []) (hu : X.A.units + 64 < cLine) : CallR X (.builtin "repr") (rRepr X.K) := by
  intro pins s σ H xs us Q I r h
  obtain ⟨x, d, rfl, hd, h0, h1, h2, h3, q⟩ := h
  obtain ⟨u, rfl, ru⟩ := vals1 r
  obtain ⟨as, rd⟩ := Dp.reads I d x u hd ru
  have fin : ∀ (h' : Heap) (u : Tok) (tk : Nat), (∀ b o, s.heap.get? b = some o → h'.get? b = some o) → EP X pins σ Q (.str d.shown u) { s with heap := h', toks := tk } := fun h' u tk hk => ⟨.str _, H, I.kept hk, ⟨_, rfl⟩, q⟩
  have nd : d.hasDict = true → sysModules ∉ as := PyData.noDict_hsm (PyData.hasDict_of_canLay d h0)
  cases hd with
  | non => cases ru; exact PySem.P.repr_of_none (by simpa only [PyData.shown] using fin s.heap s.toks (s.toks + 1) fun _ _ e => e)
  | bl b => cases ru; exact PySem.P.repr_of_bool (by simpa only [PyData.shown] using fin s.heap s.toks (s.toks + 1) fun _ _ e => e)
  | int i =>
    obtain ⟨t, rfl⟩ := ru
    exact PySem.P.repr_of_int (by simpa [PyData.showable] using h1) (by simpa only [PyData.shown] using fin s.heap s.toks (s.toks + 1) fun _ _ e => e)
  | str z =>
    obtain ⟨t, rfl⟩ := ru
    exact PySem.P.repr_of_str (by simpa only [PyData.shown] using fin s.heap s.toks (s.toks + 1) fun _ _ e => e) (by simpa only [PyData.shown] using h3)
  | lst hs ha =>
    cases ru
    exact repr_of_reads' rd h1 nd hgu (by omega) (fun _ _ e => e) fin h3
  | tup hs ha =>
    cases ru
    exact repr_of_reads' rd h1 nd hgu (by omega) (fun _ _ e => e) fin h3
theorem one1_some {f : D → Option Vl} {xs : List D} {z : Vl} (h : one1 f xs = some z) : ∃ x, xs = [x] ∧ f x = some z := by
  unfold one1 at h
  split at h
  · exact ⟨_, rfl, h⟩
  · cases h
def two1 (f : D → D → Option Vl) : List D → Option Vl
  | [x, y] => f x y
  | _ => none
theorem two1_some {f : D → D → Option Vl} {xs : List D} {z : Vl} (h : two1 f xs = some z) : ∃ x y, xs = [x, y] ∧ f x y = some z := by
  unfold two1 at h
  split at h
  · exact ⟨_, _, rfl, h⟩
  · cases h
section
variable {w : Wd} {W : WX} {X : Cx} {pos p : Pos} {a b : Expr} {ma mb : ME} {mr : MA} {e : Expr} {es : List Expr}
theorem oN_repr : OpN w (rRepr w.K) (one1 reprD) := fun O H xs z vs Q dm e rs k => by
  have ez := e
  clear e
  obtain ⟨x, rfl, e⟩ := one1_some ez
  clear ez
  obtain ⟨v, rfl, hv⟩ := repl1 rs
  unfold reprD at e
  cases q : toPy x with
  | none => rw [q] at e; cases e
  | some py =>
    rw [q] at e
    have e : (if py.canLay0 = true ∧ py.showable = true ∧ py.depth < 64 ∧ py.shown.length ≤ sizeLine then some (dS py.shown) else none) = some z := e
    split at e
    · rename_i h
      cases e
      exact ⟨v, py, rfl, dp_of x v py hv q, h.1, h.2.1, h.2.2.1, h.2.2.2, k.str⟩
    · cases e
theorem pm_repr {k : Nat} (hK : w.K = X.K) (hgu : X.A.guards = some []) (hr : Room k X.A) (hg : Gl X "repr") (hm : X.mg "repr" = none) (ha : PMA X w W [e] mr) (he : starEach [e] X.env = (false, eval e X.env) :: starEach [] X.env := by rfl) : PM X w W (.Call (.Name "repr" p) [e] [] pos) (mCall (one1 reprD) mr) :=
  pm_callB (call_repr hgu hr.units) (hK ▸ oN_repr) hg hm (by decide +kernel) ha (by decide) (by decide) he

/-! ### len, int, abs, max, min, tuple, list -/
def lenD : D → Option Vl
  | .str x => if x.length ≤ sizeLine then some (dI x.length) else none
  | .lst ds => some (dI ds.length)
  | .tup ds => some (dI ds.length)
  | .scr ds => some (dI ds.length)
  | _ => none
theorem oN_len : OpN w (fun xs H Q => ∃ x n, xs = [x] ∧ LenV w.K x H n ∧ Q (.int n) H) (one1 lenD) := fun O H xs z vs Q dm e rs k => by
  have ez := e
  clear e
  obtain ⟨x, rfl, e⟩ := one1_some ez
  clear ez
  obtain ⟨v, rfl, hv⟩ := repl1 rs
  unfold lenD at e
  split at e
  · split at e
    · cases e
      rw [rep_str hv]
      exact ⟨_, _, rfl, ⟨by assumption, rfl⟩, k.int⟩
    · cases e
  · cases e
    simp only [Rep] at hv
    obtain ⟨a, vs, rfl, h1, h2⟩ := hv
    exact ⟨_, vs.length, rfl, .inl ⟨vs, sl_of_rep h1, rfl⟩, by rw [h2.length]; exact k.int⟩
  · cases e
    simp only [Rep] at hv
    obtain ⟨a, vs, rfl, h1, h2⟩ := hv
    exact ⟨_, vs.length, rfl, .inr ⟨vs, sq_of_rep h1, rfl⟩, by rw [h2.length]; exact k.int⟩
  · cases e
    simp only [Rep] at hv
    obtain ⟨a, vs, rfl, h1, h2⟩ := hv
    exact ⟨_, vs.length, rfl, .inl ⟨vs, h1.imp (fun ⟨o, z⟩ => .inr ⟨o, z.2⟩) id, rfl⟩, by rw [h2.length]; exact k.int⟩
  · cases e
theorem pm_len (hK : w.K = X.K) (hg : Gl X "len") (hm : X.mg "len" = none) (ha : PMA X w W [e] mr) (he : starEach [e] X.env = (false, eval e X.env) :: starEach [] X.env := by rfl) : PM X w W (.Call (.Name "len" p) [e] [] pos) (mCall (one1 lenD) mr) :=
  pm_callB call_len (hK ▸ oN_len) hg hm PySem.boot_len ha (by decide) (by decide) he
def intD : D → Option Vl
  | .int i => some (dI i)
  | .bl b => some (dI (if b then 1 else 0))
  | _ => none
theorem pm_int1 (hg : Gl X "int") (hm : X.mg "int" = none) (ha : PMA X w W [e] mr) (he : starEach [e] X.env = (false, eval e X.env) :: starEach [] X.env := by rfl) : PM X w W (.Call (.Name "int" p) [e] [] pos) (mCall (one1 intD) mr) :=
  pm_callTy call_int1 (fun O H xs z vs Q dm e rs k => by
    obtain ⟨x, rfl, ez⟩ := one1_some e
    clear e
    obtain ⟨v, rfl, hv⟩ := repl1 rs
    unfold intD at ez
    split at ez
    · cases ez
      rw [rep_int hv]
      exact .inl ⟨_, rfl, k.int⟩
    · cases ez
      rw [rep_bl hv]
      exact .inr ⟨_, rfl, k.int⟩
    · cases ez) hg hm (by decide +kernel) ha (by decide) (by decide) he
def absD : D → Option Vl
  | .int i => some (dI (if i < 0 then -i else i))
  | _ => none
theorem pm_abs (hg : Gl X "abs") (hm : X.mg "abs" = none) (ha : PMA X w W [e] mr) (he : starEach [e] X.env = (false, eval e X.env) :: starEach [] X.env := by rfl) : PM X w W (.Call (.Name "abs" p) [e] [] pos) (mCall (one1 absD) mr) :=
  pm_callB call_abs (fun O H xs z vs Q dm e rs k => by
    obtain ⟨x, rfl, ez⟩ := one1_some e
    clear e
    obtain ⟨v, rfl, hv⟩ := repl1 rs
    unfold absD at ez
    split at ez
    · cases ez
      rw [rep_int hv]
      exact ⟨_, rfl, k.int⟩
    · cases ez) hg hm (by decide +kernel) ha (by decide) (by decide) he
def maxD : D → D → Option Vl := int2 fun i j => dI (if j > i then j else i)
def minD : D → D → Option Vl := int2 fun i j => dI (if j < i then j else i)
theorem pm_max (hc : X.calm = true) (hg : Gl X "max") (hm : X.mg "max" = none) (ha : PMA X w W [a, b] mr) (he : starEach [a, b] X.env = (false, eval a X.env) :: starEach [b] X.env := by rfl) (hpl : (backTo pos (starEach [b] X.env)).any (·.1) = false := by rfl) : PM X w W (.Call (.Name "max" p) [a, b] [] pos) (mCall (two1 maxD) mr) :=
  pm_callB (call_max2 hc) (fun O H xs z vs Q dm e rs k => by
    obtain ⟨x, y, rfl, e⟩ := two1_some e
    obtain ⟨v, u, rfl, hv, hu⟩ := repl2 rs
    obtain ⟨i, j, rfl, rfl, rfl⟩ := int2_some e
    rw [rep_int hv, rep_int hu]
    exact ⟨i, j, rfl, k.int⟩) hg hm (by decide +kernel) ha (by decide) (by decide) he hpl
theorem pm_min (hc : X.calm = true) (hg : Gl X "min") (hm : X.mg "min" = none) (ha : PMA X w W [a, b] mr) (he : starEach [a, b] X.env = (false, eval a X.env) :: starEach [b] X.env := by rfl) (hpl : (backTo pos (starEach [b] X.env)).any (·.1) = false := by rfl) : PM X w W (.Call (.Name "min" p) [a, b] [] pos) (mCall (two1 minD) mr) :=
  pm_callB (call_min2 hc) (fun O H xs z vs Q dm e rs k => by
    obtain ⟨x, y, rfl, e⟩ := two1_some e
    obtain ⟨v, u, rfl, hv, hu⟩ := repl2 rs
    obtain ⟨i, j, rfl, rfl, rfl⟩ := int2_some e
    rw [rep_int hv, rep_int hu]
    exact ⟨i, j, rfl, k.int⟩) hg hm (by decide +kernel) ha (by decide) (by decide) he hpl
def tupD : D → Option Vl
  | .lst ds => some (.tup ds, false)
  | .tup ds => some (.tup ds, false)
  | _ => none
theorem pm_tuple (hK : w.K = X.K) (hg : Gl X "tuple") (hm : X.mg "tuple" = none) (ha : PMA X w W [e] mr) (he : starEach [e] X.env = (false, eval e X.env) :: starEach [] X.env := by rfl) : PM X w W (.Call (.Name "tuple" p) [e] [] pos) (mCall (one1 tupD) mr) :=
  pm_callTy call_tuple_of (fun O H xs z vs Q dm e rs k => by
    obtain ⟨x, rfl, ez⟩ := one1_some e
    clear e
    obtain ⟨v, rfl, hv⟩ := repl1 rs
    unfold tupD at ez
    split at ez
    · cases ez
      simp only [Rep] at hv
      obtain ⟨a, vs, rfl, h1, h2⟩ := hv
      exact ⟨a, vs, rfl, .inl ⟨hK ▸ sl_of_rep h1, fun l hl => k.newT dm h2 hl⟩⟩
    · cases ez
      have hv' := hv
      simp only [Rep] at hv
      obtain ⟨a, vs, rfl, h1, h2⟩ := hv
      exact ⟨a, vs, rfl, .inr ⟨hK ▸ sq_of_rep h1, k.val hv'⟩⟩
    · cases ez) hg hm (by decide +kernel) ha (by decide) (by decide) he
def lstD : D → Option Vl
  | .lst ds => some (.lst ds, true)
  | .tup ds => some (.lst ds, true)
  | _ => none
theorem pm_list (hK : w.K = X.K) (hg : Gl X "list") (hm : X.mg "list" = none) (ha : PMA X w W [e] mr) (he : starEach [e] X.env = (false, eval e X.env) :: starEach [] X.env := by rfl) : PM X w W (.Call (.Name "list" p) [e] [] pos) (mCall (one1 lstD) mr) :=
  pm_callTy call_list_of (fun O H xs z vs Q dm e rs k => by
    obtain ⟨x, rfl, ez⟩ := one1_some e
    clear e
    obtain ⟨v, rfl, hv⟩ := repl1 rs
    unfold lstD at ez
    split at ez
    · cases ez
      simp only [Rep] at hv
      obtain ⟨a, vs, rfl, h1, h2⟩ := hv
      exact ⟨a, vs, rfl, .inl (hK ▸ sl_of_rep h1), fun l hl => k.newL h2 hl⟩
    · cases ez
      simp only [Rep] at hv
      obtain ⟨a, vs, rfl, h1, h2⟩ := hv
      exact ⟨a, vs, rfl, .inr (hK ▸ sq_of_rep h1), fun l hl => k.newL h2 hl⟩
    · cases ez) hg hm (by decide +kernel) ha (by decide) (by decide) he

/-! ### x[i] -/
def ixD : D → D → Option Vl
  | .lst ds, .int i => (atI ds i).map fun d => (d, false)
  | .tup ds, .int i => (atI ds i).map fun d => (d, false)
  | .scr ds, .int i => (atI ds i).map fun d => (d, false)
  | .str x, .int i => if x.length ≤ sizeLine then (atI x.cps.toList i).map fun c => dS ⟨#[c]⟩ else none
  | _, _ => none
theorem atI_rep {O : Av} {H : Hp} {ds : List D} {vs : List V} {i : Int} {d : D} (h : RepL w O H ds vs) (e : atI ds i = some d) : ∃ v, atI vs i = some v ∧ Rep w O H d v := by
  unfold atI at e ⊢
  rw [h.length]
  cases q : ixN ds.length i with
  | none => rw [q] at e; cases e
  | some j =>
    rw [q] at e
    have e : ds[j]? = some d := e
    obtain ⟨v, e1, e2⟩ := h.get e
    exact ⟨v, e1, e2⟩
theorem o2_ix : Op2 w (rIx w.K) ixD := fun O H x y z vx vy Q dm e hx hy k => by
  unfold ixD at e
  split at e
  · rename_i ds i
    rw [rep_int hy]
    cases q : atI ds i with
    | none => rw [q] at e; cases e
    | some d =>
      rw [q] at e
      cases e
      simp only [Rep] at hx
      obtain ⟨a, vs, rfl, h1, h2⟩ := hx
      obtain ⟨v, e1, e2⟩ := atI_rep h2 q
      exact .inl ⟨a, vs, i, v, rfl, rfl, sl_of_rep h1, e1, k.val e2⟩
  · rename_i ds i
    rw [rep_int hy]
    cases q : atI ds i with
    | none => rw [q] at e; cases e
    | some d =>
      rw [q] at e
      cases e
      simp only [Rep] at hx
      obtain ⟨a, vs, rfl, h1, h2⟩ := hx
      obtain ⟨v, e1, e2⟩ := atI_rep h2 q
      exact .inr (.inl ⟨a, vs, i, v, rfl, rfl, sq_of_rep h1, e1, k.val e2⟩)
  · rename_i ds i
    rw [rep_int hy]
    cases q : atI ds i with
    | none => rw [q] at e; cases e
    | some d =>
      rw [q] at e
      cases e
      simp only [Rep] at hx
      obtain ⟨a, vs, rfl, h1, h2⟩ := hx
      obtain ⟨v, e1, e2⟩ := atI_rep h2 q
      exact .inl ⟨a, vs, i, v, rfl, rfl, h1.imp (fun ⟨o, z⟩ => .inr ⟨o, z.2⟩) id, e1, k.val e2⟩
  · rename_i x i
    split at e
    · rename_i hz
      rw [rep_int hy, rep_str hx]
      cases q : atI x.cps.toList i with
      | none => rw [q] at e; cases e
      | some c =>
        rw [q] at e
        cases e
        exact .inr (.inr ⟨x, i, c, rfl, rfl, hz, q, k.str⟩)
    · cases e
  · cases e
theorem pm_item (hK : w.K = X.K) (ha : PM X w W a ma) (hb : PM X w W b mb) (hs : PlainIx b := by exact fun _ _ => rfl) : PM X w W (.Subscript a b pos) (mOp2 ixD ma mb) := pm_ix ix_seq (hK ▸ o2_ix) ha hb hs
end
end PM

namespace PM
open PySem L2

/-! ### one's own lists: read, changed -/
/-- an expression behind a slot that holds a list of one's own -/
def mBehind {α : Type} (i : Nat) (m : En → Rs α) (f : α → Sl → Mu → En → Rs Vl) : ME := fun ρ => match muOf i ρ with
  | some (_, .lst _) => (m ρ).bind fun y ρ1 => (match muOf i ρ1 with
    | none => .stuck
    | some (s, m) => f y s m ρ1)
  | _ => .stuck
theorem behind_hold {α : Type} {i : Nat} {m : En → Rs α} {f : α → Sl → Mu → En → Rs Vl} {F : Fr} {W : WX} {O : Av} {σ : St} {H : Hp} {Q : VK} {ρ : En} (R : Rel F O ρ σ H) (h : Hold F W O σ H (RV F σ H) Q (mBehind i m f ρ)) :
    ∃ a vs, σ[i]? = some (some (.ref a)) ∧ H a = some (.lst vs) ∧ Hold F W O σ H (RV F σ H) Q ((m ρ).bind fun y ρ1 => (match muOf i ρ1 with
    | none => .stuck
    | some (s, m) => f y s m ρ1)) := by
  unfold mBehind at h
  split at h
  · rename_i s ds q
    obtain ⟨e0, g0⟩ := muOf_some q
    obtain ⟨a, ea, oa, vs, hv, _⟩ := R.muAt e0 g0
    exact ⟨a, vs, ea, hv, h⟩
  · exact h.elim
def mItemO (i : Nat) (mb : ME) : ME := mBehind i mb fun y s m ρ1 => match m, y.1 with
  | .lst ds, .int k => lift ((atI ds k).map fun d => (d, false)) ρ1
  | _, _ => .stuck
def mAppend (i : Nat) (mr : MA) : ME := mBehind i mr fun ys s m ρ1 => match m, ys with
  | .lst ds, [y] => if ds.length < sizeLine then .ok (.non, false) (ρ1.set i (s.put (.lst (ds ++ [y])))) else .stuck
  | _, _ => .stuck
def mPopAt (i : Nat) (mr : MA) : ME := mBehind i mr fun ys s m ρ1 => match m, ys with
  | .lst ds, [.int k] => if 0 ≤ k ∧ k < 2 ^ 63 then (match ds[k.toNat]? with
    | some d => .ok (d, false) (ρ1.set i (s.put (.lst (ds.eraseIdx k.toNat))))
    | none => .stuck) else .stuck
  | _, _ => .stuck
def mPop (i : Nat) : ME := mBehind i mNil fun ys s m ρ1 => match m, ys with
  | .lst ds, [] => (match ds[ds.length - 1]? with
    | some d => .ok (d, false) (ρ1.set i (s.put (.lst ds.dropLast)))
    | none => .stuck)
  | _, _ => .stuck
def mLenO (i : Nat) : ME := mBehind i mNil fun _ s m ρ1 => match m with
  | .lst ds => .ok (dI ds.length) ρ1
  | _ => .stuck
def mSetItem (i : Nat) (mk mv : ME) : MS := fun ρ => (mv ρ).bind fun y ρ1 => match muOf i ρ1 with
  | none => .stuck
  | some _ => (mk ρ1).bind fun k ρ2 => match muOf i ρ2, k.1 with
    | some (s, .lst ds), .int j => (match ixN ds.length j with
      | some n => .ok .nx (ρ2.set i (s.put (.lst (ds.set n y.1))))
      | none => .stuck)
    | _, _ => .stuck
section
variable {w : Wd} {W : WX} {F : Fr} {O : Av} {ρ : En} {σ : St} {H : Hp}
theorem mut_lst {i : Nat} {s : Sl} {m : Mu} {a : Addr} {vs : List V} {ds : List D} (R : Rel F O ρ σ H) (e : ρ[i]? = some s) (g : s.get = some m) (ea : σ[i]? = some (some (.ref a))) (ho : O a) (h : RepL F.w O H ds vs) :
    Rel F O (ρ.set i (s.put (.lst ds))) σ (upd H a (.lst vs)) ∧ Step O H O (upd H a (.lst vs)) :=
  ⟨R.mut e g ea ho ⟨vs, upd_same, RepL.step (mut_step ho) ds vs h⟩, mut_step ho⟩
theorem RepL.set : ∀ {ds : List D} {vs : List V} {n : Nat} {d : D} {v : V}, RepL w O H ds vs → Rep w O H d v → RepL w O H (ds.set n d) (vs.set n v)
  | [], vs, n, d, v, h, k => by
    simp only [RepL] at h
    subst h
    simp [RepL]
  | x :: ds, vs, n, d, v, h, k => by
    simp only [RepL] at h
    obtain ⟨u, us, rfl, h1, h2⟩ := h
    cases n with
    | zero =>
      simp only [List.set_cons_zero, RepL]
      exact ⟨v, us, rfl, k, h2⟩
    | succ n =>
      simp only [List.set_cons_succ, RepL]
      exact ⟨u, _, rfl, h1, RepL.set h2 k⟩
theorem RepL.erase : ∀ {ds : List D} {vs : List V} {n : Nat}, RepL w O H ds vs → RepL w O H (ds.eraseIdx n) (vs.eraseIdx n)
  | [], vs, n, h => by
    simp only [RepL] at h
    subst h
    simp [RepL]
  | x :: ds, vs, n, h => by
    simp only [RepL] at h
    obtain ⟨u, us, rfl, h1, h2⟩ := h
    cases n with
    | zero => simpa using h2
    | succ n =>
      simp only [List.eraseIdx_cons_succ, RepL]
      exact ⟨u, _, rfl, h1, RepL.erase h2⟩
theorem RepL.dropLast : ∀ {ds : List D} {vs : List V}, RepL w O H ds vs → RepL w O H ds.dropLast vs.dropLast
  | [], vs, h => by
    simp only [RepL] at h
    subst h
    simp [RepL]
  | [x], vs, h => by
    obtain ⟨v, rfl, _⟩ := repl1 h
    simp [RepL]
  | x :: y :: ds, vs, h => by
    simp only [RepL] at h
    obtain ⟨u, us, rfl, h1, v, vs', rfl, h2, h3⟩ := h
    have := RepL.dropLast (ds := y :: ds) (vs := v :: vs') (by simp only [RepL]; exact ⟨v, vs', rfl, h2, h3⟩)
    simp only [List.dropLast_cons₂, RepL]
    exact ⟨u, _, rfl, h1, this⟩
end
section
variable {w : Wd} {W : WX} {X : Cx} {pos p apos : Pos} {x : Str} {b e : Expr} {mb : ME} {mr : MA}
theorem pm_itemO (i : Nat) (hK : w.K = X.K) (hb : PM X w W b mb) (hs : PlainIx b := by exact fun _ _ => rfl) (hN : X.N[i]? = some x := by rfl) (hv : Vis X.env.scope x := by first | exact Or.inl rfl | exact Or.inr (Or.inl rfl) | exact Or.inr (Or.inr rfl)) (hd : (x == ("__debug__" : Str)) = false := by decide)
    (hcd : (x == ("__classdict__" : Str)) = false := by decide) : PM X w W (.Subscript (.Name x p) b pos) (mItemO i mb) := by
  obtain ⟨tb, pb, sb⟩ := hb
  refine ⟨_, pe_ix ix_seq (pv i hN hv hd hcd) pb hs, fun F O ρ σ H Q hw R hh => ?_⟩
  subst hw
  obtain ⟨a, vs0, ea, ha, hh⟩ := behind_hold R hh
  refine ⟨.ref a, ea, ?_⟩
  refine sb.bind rfl R hh fun y u ρ1 O1 H1 st1 R1 ry h1 => ?_
  split at h1
  · exact h1.elim
  · rename_i s m q1
    obtain ⟨e1, g1⟩ := muOf_some q1
    obtain ⟨a', ea', oa', ma'⟩ := R1.muAt e1 g1
    rw [ea] at ea'
    cases ea'
    split at h1
    · rename_i ds k ey
      rw [ey] at ry
      rw [rep_int ry]
      obtain ⟨vs, hv, hr⟩ := ma'
      cases q : atI ds k with
      | none => rw [q] at h1; exact h1.elim
      | some d =>
        rw [q] at h1
        obtain ⟨v, e2, e3⟩ := atI_rep hr q
        exact .inl ⟨a, vs, k, v, rfl, rfl, .inl (.inl hv), e2, (Hold.go (z := (d, false)) h1 st1 R1).val e3⟩
    · exact h1.elim
theorem sim_mut {r : V → List V → Hp → VK → Prop} {i : Nat} {ta : TA} {f : List D → Sl → Mu → En → Rs Vl} (sr : SimA w W ta mr)
    (hf : ∀ (F : Fr) (O : Av) (ρ : En) (σ : St) (H : Hp) (a : Addr) (ys : List D) (us : List V) (s : Sl) (m : Mu) (Q : VK), F.w = w → Rel F O ρ σ H → ρ[i]? = some s → s.get = some m → σ[i]? = some (some (.ref a)) → O a → MuAt F.w O H a m → RepL F.w O H ys us → Hold F W O σ H (RV F σ H) Q (f ys s m ρ) → r (.ref a) us H Q) :
    Sim w W (tBM w.K "list" r (tVar i) ta) (mBehind i mr f) := fun F O ρ σ H Q hw R hh => by
  subst hw
  obtain ⟨a, vs0, ea, ha, hh⟩ := behind_hold R hh
  refine ⟨.ref a, ea, .inl ⟨rfl, vs0, .inl (.inl ha)⟩, ?_⟩
  refine sr.bind rfl R hh fun ys us ρ1 O1 H1 st1 R1 rs h1 => ?_
  split at h1
  · exact h1.elim
  · rename_i s m q1
    obtain ⟨e1, g1⟩ := muOf_some q1
    obtain ⟨a', ea', oa', ma'⟩ := R1.muAt e1 g1
    rw [ea] at ea'
    cases ea'
    exact hf F O1 ρ1 σ H1 a ys us s m Q rfl R1 e1 g1 ea oa' ma' rs (h1.laterV st1)
/-- the end of a change: a value out of it, the list changed -/
theorem Hold.mut {F : Fr} {W : WX} {O : Av} {σ : St} {H : Hp} {Q : VK} {ρ : En} {i : Nat} {s : Sl} {m : Mu} {a : Addr} {ds' : List D} {vs' : List V} {d : D} {v : V} (h : Hold F W O σ H (RV F σ H) Q (.ok (d, false) (ρ.set i (s.put (.lst ds'))))) (R : Rel F O ρ σ H) (e : ρ[i]? = some s) (g : s.get = some m)
    (ea : σ[i]? = some (some (.ref a))) (ho : O a) (hr : RepL F.w O H ds' vs') (hv : Rep F.w O H d v) : Q v (upd H a (.lst vs')) := by
  obtain ⟨R', st⟩ := mut_lst R e g ea ho hr
  exact h O _ v st R' (Rep.step st d v hv)
theorem pm_append (i : Nat) (hK : w.K = X.K) (ha : PMA X w W [e] mr) (hN : X.N[i]? = some x := by rfl) (hv : Vis X.env.scope x := by first | exact Or.inl rfl | exact Or.inr (Or.inl rfl) | exact Or.inr (Or.inr rfl)) (hd : (x == ("__debug__" : Str)) = false := by decide)
    (hcd : (x == ("__classdict__" : Str)) = false := by decide) (hbase : attributeBase (.Name x p) "append" X.env (eval (.Name x p) X.env) = eval (.Name x p) X.env := by rfl)
    (hfew : ((backTo pos (starEach [e] X.env)).all (fun x => !x.1) && (backToKw pos (keywordEach [] X.env)).all (fun x => x.1.isSome)
      && decide ([e].length + ([] : List Keyword).length + (if ([] : List Keyword).isEmpty then 0 else 1) < 30)) = true := by rfl) (hline : (apos.endLine == pos.line) = true := by rfl) (hs : starEach [e] X.env = (false, eval e X.env) :: starEach [] X.env := by rfl) :
    PM X w W (.Call (.Attribute (.Name x p) "append" apos) [e] [] pos) (mAppend i mr) := by
  obtain ⟨ta, pa, sa⟩ := ha
  refine ⟨_, pe_bm PySem.F.plainAttrs_list PySem.F.slot_list_append PySem.F.type_list_append mt_append (pv i hN hv hd hcd) pa hbase hfew hline hs, ?_⟩
  rw [← hK]
  refine sim_mut sa fun F O ρ σ H a ys us s m Q hw R e1 g1 ea oa ma rs hh => ?_
  split at hh
  · rename_i ds y
    obtain ⟨u, rfl, hu⟩ := repl1 rs
    obtain ⟨vs, hvs, hr⟩ := ma
    split at hh
    · rename_i hz
      refine ⟨a, vs, u, rfl, rfl, hvs, by rw [hr.length]; exact hz, ?_⟩
      exact hh.mut (d := .non) R e1 g1 ea oa (hr.append (by simp only [RepL]; exact ⟨u, [], rfl, hu, rfl⟩)) (by simp only [Rep])
    · exact hh.elim
  · exact hh.elim
theorem pm_popAt (i : Nat) (hK : w.K = X.K) (ha : PMA X w W [e] mr) (hN : X.N[i]? = some x := by rfl) (hv : Vis X.env.scope x := by first | exact Or.inl rfl | exact Or.inr (Or.inl rfl) | exact Or.inr (Or.inr rfl)) (hd : (x == ("__debug__" : Str)) = false := by decide)
    (hcd : (x == ("__classdict__" : Str)) = false := by decide) (hbase : attributeBase (.Name x p) "pop" X.env (eval (.Name x p) X.env) = eval (.Name x p) X.env := by rfl)
    (hfew : ((backTo pos (starEach [e] X.env)).all (fun x => !x.1) && (backToKw pos (keywordEach [] X.env)).all (fun x => x.1.isSome)
      && decide ([e].length + ([] : List Keyword).length + (if ([] : List Keyword).isEmpty then 0 else 1) < 30)) = true := by rfl) (hline : (apos.endLine == pos.line) = true := by rfl) (hs : starEach [e] X.env = (false, eval e X.env) :: starEach [] X.env := by rfl) :
    PM X w W (.Call (.Attribute (.Name x p) "pop" apos) [e] [] pos) (mPopAt i mr) := by
  obtain ⟨ta, pa, sa⟩ := ha
  refine ⟨_, pe_bm PySem.F.plainAttrs_list PySem.F.slot_list_pop PySem.F.type_list_pop mt_popAt (pv i hN hv hd hcd) pa hbase hfew hline hs, ?_⟩
  rw [← hK]
  refine sim_mut sa fun F O ρ σ H a ys us s m Q hw R e1 g1 ea oa ma rs hh => ?_
  split at hh
  · rename_i ds k
    obtain ⟨u, rfl, hu⟩ := repl1 rs
    obtain ⟨vs, hvs, hr⟩ := ma
    split at hh
    · rename_i hz
      split at hh
      · rename_i d hd
        obtain ⟨v, e2, e3⟩ := hr.get hd
        rw [rep_int hu]
        have hlt : k.toNat < vs.length := lt_of_get e2
        refine ⟨a, vs, k, k.toNat, v, rfl, rfl, hvs, by omega, hz.2, ?_, e2, hh.mut R e1 g1 ea oa hr.erase e3⟩
        have q := (ixN_seq (n := vs.length) (i := k) (j := k.toNat) (by unfold ixN; rw [if_pos hz.1, if_pos (by omega)])).1
        exact q
      · exact hh.elim
    · exact hh.elim
  · exact hh.elim
theorem pm_pop (i : Nat) (hK : w.K = X.K) (hN : X.N[i]? = some x := by rfl) (hv : Vis X.env.scope x := by first | exact Or.inl rfl | exact Or.inr (Or.inl rfl) | exact Or.inr (Or.inr rfl)) (hd : (x == ("__debug__" : Str)) = false := by decide)
    (hcd : (x == ("__classdict__" : Str)) = false := by decide) (hbase : attributeBase (.Name x p) "pop" X.env (eval (.Name x p) X.env) = eval (.Name x p) X.env := by rfl) (hline : (apos.endLine == pos.line) = true := by rfl) :
    PM X w W (.Call (.Attribute (.Name x p) "pop" apos) [] [] pos) (mPop i) := by
  refine ⟨_, pe_bm0 PySem.F.plainAttrs_list PySem.F.slot_list_pop PySem.F.type_list_pop mt_pop (pv i hN hv hd hcd) hbase hline, ?_⟩
  rw [← hK]
  have z : tBM0 w.K "list" rPop (tVar i) = tBM w.K "list" rPop (tVar i) tNil := rfl
  rw [z]
  refine sim_mut sima_nil fun F O ρ σ H a ys us s m Q hw R e1 g1 ea oa ma rs hh => ?_
  split at hh
  · rename_i ds
    obtain ⟨vs, hvs, hr⟩ := ma
    split at hh
    · rename_i d hd
      obtain ⟨v, e2, e3⟩ := hr.get hd
      have eu : us = [] := by simpa only [RepL] using rs
      subst eu
      exact ⟨a, vs, v, rfl, rfl, hvs, by rw [hr.length]; exact e2, hh.mut R e1 g1 ea oa hr.dropLast e3⟩
    · exact hh.elim
  · exact hh.elim
theorem pm_lenO (i : Nat) (hK : w.K = X.K) (hg : Gl X "len") (hm : X.mg "len" = none) (hN : X.N[i]? = some x := by rfl) (hv : Vis X.env.scope x := by first | exact Or.inl rfl | exact Or.inr (Or.inl rfl) | exact Or.inr (Or.inr rfl)) (hd : (x == ("__debug__" : Str)) = false := by decide)
    (hcd : (x == ("__classdict__" : Str)) = false := by decide) (he : starEach [.Name x p] X.env = (false, eval (.Name x p) X.env) :: starEach [] X.env := by rfl) : PM X w W (.Call (.Name "len" apos) [.Name x p] [] pos) (mLenO i) := by
  refine ⟨_, pe_callB call_len hg hm PySem.boot_len (pa_cons (pv i hN hv hd hcd) pa_nil he) (by decide) (by decide) he, fun F O ρ σ H Q hw R hh => ?_⟩
  subst hw
  unfold mLenO mBehind at hh
  split at hh
  · rename_i s ds q
    obtain ⟨e0, g0⟩ := muOf_some q
    obtain ⟨a, ea, oa, vs, hv, hr⟩ := R.muAt e0 g0
    have hh : Hold F W O σ H (RV F σ H) Q (match muOf i ρ with
      | none => .stuck
      | some (s, m) => (match m with
        | .lst ds => .ok (dI ds.length) ρ
        | _ => .stuck)) := hh
    rw [q] at hh
    refine ⟨.ref a, ea, .ref a, vs.length, rfl, .inl ⟨vs, .inl (.inl hv), rfl⟩, ?_⟩
    rw [hr.length]
    exact Go.int (hh.go (Step.refl _ _) R)
  · exact hh.elim
/-- x[k] = v -/
theorem pms_setItem (i : Nat) {k v : Expr} {mk mv : ME} {spos : Pos} (hv : PM X w W v mv) (hk : PM X w W k mk) (hN : X.N[i]? = some x := by rfl) (hvi : Vis X.env.scope x := by first | exact Or.inl rfl | exact Or.inr (Or.inl rfl) | exact Or.inr (Or.inr rfl)) (hd : (x == ("__debug__" : Str)) = false := by decide)
    (hcd : (x == ("__classdict__" : Str)) = false := by decide)
    (ha : ∀ u, assign (.Subscript (.Name x p) k pos) X.env u = (do
      let ov ← holding [u] (eval (.Name x p) X.env)
      let iv ← holding [u, ov] (eval k X.env)
      standAt pos
      holding [u, ov, iv] (setItem ov iv u)
      release [u, ov, iv] []) := by intro _; rfl)
    (hs : swapsWithSole [.Subscript (.Name x p) k pos] v spos.line X.env = pure false := by rfl) (hw' : swappedStores [.Subscript (.Name x p) k pos] v X.env = pure none := by rfl)
    (h1 : (assignEach [.Subscript (.Name x p) k pos] X.env).map (·.2) = [assign (.Subscript (.Name x p) k pos) X.env] := by rfl) : PMS X w W (.Assign [.Subscript (.Name x p) k pos] v spos) (mSetItem i mk mv) := by
  obtain ⟨tv, pv', sv⟩ := hv
  obtain ⟨tk, pk, sk⟩ := hk
  refine ⟨_, ps_asg pv' (pg_sub (pv i hN hvi hd hcd) pk set_list ha) hs hw' h1, fun F O ρ σ H E hw R hh => ?_⟩
  refine sv.bindS hw R hh fun y u ρ1 O1 H1 st1 R1 rv h2 => ?_
  obtain ⟨O2, s2, R2, r2, s3⟩ := VlAt.release st1 R1 R.doh rv
  have h2 := h2.later s3
  split at h2
  · exact h2.elim
  · rename_i sm q0
    obtain ⟨e0, g0⟩ := muOf_some (s := sm.1) (m := sm.2) q0
    obtain ⟨a, ea, oa, _⟩ := R2.muAt e0 g0
    refine ⟨.ref a, ea, ?_⟩
    refine sk.bindS hw R2 h2 fun kk uk ρ2 O3 H3 st3 R3 rk h3 => ?_
    obtain ⟨O4, s4, R4, r4, s5⟩ := VlAt.release st3 R3 R2.doh rk
    have h3 := h3.later s5
    split at h3
    · rename_i s ds j q1 ek
      obtain ⟨e1, g1⟩ := muOf_some q1
      obtain ⟨a', ea', oa', vs, hvs, hr⟩ := R4.muAt e1 g1
      rw [ea] at ea'
      cases ea'
      rw [ek] at r4
      rw [rep_int r4]
      split at h3
      · rename_i n hn
        refine ⟨a, vs, j, n, rfl, rfl, hvs, by rw [hr.length]; exact hn, ?_⟩
        obtain ⟨R', st⟩ := mut_lst R4 e1 g1 ea oa' (RepL.set (n := n) hr (Rep.step s4 _ _ r2))
        exact h3 O4 σ _ st R'
      · exact h3.elim
    · exact h3.elim
end
end PM

namespace PM
open PySem L2

/-! ### what is walked -/
def ItOk (w : Wd) (ds : List D) (O1 : Av) (H1 : Hp) (J : It) : Prop := ∃ (G : Hp → Prop) (Y : Nat → Hp → V → Hp → Prop), Walk J ds.length G Y ∧ (∀ O' H', Step O1 H1 O' H' → G H') ∧
  ∀ (i : Nat) (O' : Av) (H' : Hp) (x : V) (H'' : Hp), i < ds.length → Step O1 H1 O' H' → Dm O' H' → Y i H' x H'' → Grow H' H'' ∧ ∃ d, ds.drop i = d :: ds.drop (i + 1) ∧ Rep w O' H'' d x
abbrev MI := En → Rs (List D)
def RIt (w : Wd) : En → Av → Hp → It → List D → Prop := fun _ O' H' J ds => ItOk w ds O' H' J
def SimI (w : Wd) (W : WX) (wi : TI) (mi : MI) : Prop := ∀ (F : Fr) (O : Av) (ρ : En) (σ : St) (H : Hp) (R : It → Hp → Prop), F.w = w → Rel F O ρ σ H → Hold F W O σ H (RIt F.w) R (mi ρ) → wi σ H R
def PMI (X : Cx) (w : Wd) (W : WX) (tg it : Expr) (mi : MI) : Prop := ∃ wi, PI X tg it wi ∧ SimI w W wi mi
theorem SimI.bindS {w : Wd} {W : WX} {wi : TI} {mi : MI} (ha : SimI w W wi mi) {F : Fr} {O : Av} {ρ : En} {σ : St} {H : Hp} (hw : F.w = w) (R : Rel F O ρ σ H) {E : Ends} {f : List D → En → Rs Fl} (h : HoldS F W O H E ((mi ρ).bind f)) {k : It → Hp → Prop}
    (hk : ∀ (ds : List D) (J : It) (ρ1 : En) (O1 : Av) (H1 : Hp), Step O H O1 H1 → Rel F O1 ρ1 σ H1 → ItOk F.w ds O1 H1 J → HoldS F W O1 H1 E (f ds ρ1) → k J H1) : wi σ H k := by
  refine ha F O ρ σ H k hw R ?_
  cases e : mi ρ with
  | ok x ρ1 =>
    rw [e] at h
    exact fun O1 H1 v st R1 rv => hk x v ρ1 O1 H1 st R1 rv (h.later st)
  | exc x ρ1 =>
    rw [e] at h
    exact fun O1 H1 cls d st R1 xa => h O1 σ H1 cls d st R1 xa
  | stuck =>
    rw [e] at h
    exact h
theorem SimI.bind {w : Wd} {W : WX} {wi : TI} {mi : MI} (ha : SimI w W wi mi) {F : Fr} {O : Av} {ρ : En} {σ : St} {H : Hp} (hw : F.w = w) (R : Rel F O ρ σ H) {α β : Type} {RA : En → Av → Hp → β → α → Prop} {Q : β → Hp → Prop} {f : List D → En → Rs α}
    (h : Hold F W O σ H RA Q ((mi ρ).bind f)) {k : It → Hp → Prop}
    (hk : ∀ (ds : List D) (J : It) (ρ1 : En) (O1 : Av) (H1 : Hp), Step O H O1 H1 → Rel F O1 ρ1 σ H1 → ItOk F.w ds O1 H1 J → Hold F W O σ H RA Q (f ds ρ1) → k J H1) : wi σ H k := by
  refine ha F O ρ σ H k hw R ?_
  cases e : mi ρ with
  | ok x ρ1 =>
    rw [e] at h
    exact fun O1 H1 v st R1 rv => hk x v ρ1 O1 H1 st R1 rv h
  | exc x ρ1 =>
    rw [e] at h
    exact fun O1 H1 cls d st R1 xa => h O1 H1 cls d st R1 xa
  | stuck =>
    rw [e] at h
    exact h
def itL : D → Option (List D)
  | .lst ds => some ds
  | _ => none
def itT : D → Option (List D)
  | .tup ds => some ds
  | _ => none
def signs (z : Str) : List D := z.cps.toList.map fun c => .str ⟨#[c]⟩
def itS : D → Option (List D)
  | .str z => some (signs z)
  | _ => none
def mIt (f : D → Option (List D)) (m : ME) : MI := fun ρ => (m ρ).bind fun x ρ1 => lift (f x.1) ρ1
def mItA (f : List D → Option (List D)) (m : MA) : MI := fun ρ => (m ρ).bind fun x ρ1 => lift (f x) ρ1
theorem ItOk.at {w : Wd} {O1 : Av} {H1 : Hp} {J : It} {ds : List D} {vs : List V} {G : Hp → Prop} (hw : Walk J vs.length G (YAt vs)) (hr : RepL w O1 H1 ds vs) (hG : ∀ O' H', Step O1 H1 O' H' → G H') : ItOk w ds O1 H1 J := by
  refine ⟨G, YAt vs, hr.length ▸ hw, hG, fun i O' H' x H'' hi st dm y => ?_⟩
  obtain ⟨rfl, e⟩ := y
  obtain ⟨d, e1, e2⟩ := hr.at e
  exact ⟨Grow.refl _, d, e1, Rep.step st _ _ e2⟩
section
variable {w : Wd} {W : WX} {X : Cx} {pos p : Pos} {it tg : Expr} {m : ME} {mr : MA} {a b : Expr}
theorem pmi_list (hK : w.K = X.K) (h : PM X w W it m) : PMI X w W tg it (mIt itL m) := by
  obtain ⟨t, p, s⟩ := h
  refine ⟨_, pi_list p, fun F O ρ σ H R hw R0 hh => ?_⟩
  subst hw
  refine s.bind rfl R0 hh fun x v ρ1 O1 H1 st R1 rx h1 => ?_
  cases q : itL x.1 with
  | none => rw [q] at h1; exact h1.elim
  | some ds =>
    rw [q] at h1
    have ex : x.1 = .lst ds := by
      revert q
      cases x.1 <;> simp [itL]
    rw [ex] at rx
    simp only [Rep] at rx
    obtain ⟨c, vs, rfl, hq, hr⟩ := rx
    refine ⟨c, rfl, ⟨vs, hK ▸ sl_of_rep hq⟩, h1 O1 H1 _ st R1 (ItOk.at walk_list hr fun O' H' st' => hK ▸ sl_of_rep (At.step st' hq))⟩
theorem pmi_tup (hK : w.K = X.K) (h : PM X w W it m) : PMI X w W tg it (mIt itT m) := by
  obtain ⟨t, p, s⟩ := h
  refine ⟨_, pi_tup p, fun F O ρ σ H R hw R0 hh => ?_⟩
  subst hw
  refine s.bind rfl R0 hh fun x v ρ1 O1 H1 st R1 rx h1 => ?_
  cases q : itT x.1 with
  | none => rw [q] at h1; exact h1.elim
  | some ds =>
    rw [q] at h1
    have ex : x.1 = .tup ds := by
      revert q
      cases x.1 <;> simp [itT]
    rw [ex] at rx
    simp only [Rep] at rx
    obtain ⟨c, vs, rfl, hq, hr⟩ := rx
    refine ⟨c, rfl, ⟨vs, hK ▸ sq_of_rep hq⟩, h1 O1 H1 _ st R1 (ItOk.at walk_tup hr fun O' H' st' => hK ▸ sq_of_rep (hq.imp (At.step st') id))⟩
theorem pmi_str (h : PM X w W it m) : PMI X w W tg it (mIt itS m) := by
  obtain ⟨t, p, s⟩ := h
  refine ⟨_, pi_str p, fun F O ρ σ H R hw R0 hh => ?_⟩
  subst hw
  refine s.bind rfl R0 hh fun x v ρ1 O1 H1 st R1 rx h1 => ?_
  cases q : itS x.1 with
  | none => rw [q] at h1; exact h1.elim
  | some ds =>
    rw [q] at h1
    obtain ⟨z, ex, ez⟩ : ∃ z, x.1 = .str z ∧ ds = signs z := by
      revert q
      cases x.1 <;> simp [itS]
      intro h
      exact h.symm
    subst ez
    rw [ex] at rx
    refine ⟨z, rep_str rx, h1 O1 H1 _ st R1 ⟨fun _ => True, fun i H v H' => H' = H ∧ ∃ c, z.cps[i]? = some c ∧ v = .str ⟨#[c]⟩, ?_, fun _ _ _ => trivial, fun i O' H' x H'' hi st' dm y => ?_⟩⟩
    · have : (signs z).length = z.cps.size := by simp [signs]
      rw [this]
      exact walk_str
    · obtain ⟨rfl, c, e, rfl⟩ := y
      refine ⟨Grow.refl _, .str ⟨#[c]⟩, ?_, by simp only [Rep]⟩
      have hlt : i < z.cps.toList.length := by simpa [signs] using hi
      have e' : z.cps.toList[i] = c := by
        have := Array.getElem?_eq_some_iff.mp e
        obtain ⟨h, e⟩ := this
        simpa using e
      unfold signs
      rw [← List.map_drop, ← List.map_drop, List.drop_eq_getElem_cons hlt, List.map_cons, e']
theorem itok_rg {lo : Int} {n : Nat} {O1 : Av} {H1 : Hp} : ItOk w (rgL lo n) O1 H1 (Itr lo n) := by
  refine ⟨fun _ => True, YFn fun i => .int (lo + i), ?_, fun _ _ _ => trivial, fun i O' H' x H'' hi st' dm y => ?_⟩
  · rw [rgL_length]
    exact walk_range
  · obtain ⟨rfl, rfl⟩ := y
    rw [rgL_length] at hi
    exact ⟨Grow.refl _, _, rgL_drop lo n i hi, by simp only [Rep]⟩
theorem pmi_range1 (hg : Gl X "range") (hm : X.mg "range" = none) (ha : PMA X w W [a] mr) (hst : starEach [a] X.env = [(false, eval a X.env)] := by rfl) : PMI X w W tg (.Call (.Name "range" p) [a] [] pos) (mItA rng1 mr) := by
  obtain ⟨t, pa, s⟩ := ha
  refine ⟨_, pi_range1 hg hm pa hst, fun F O ρ σ H R hw R0 hh => ?_⟩
  subst hw
  refine s.bind rfl R0 hh fun xs vs ρ1 O1 H1 st R1 rs h1 => ?_
  cases q : rng1 xs with
  | none => rw [q] at h1; exact h1.elim
  | some ds =>
    rw [q] at h1
    unfold rng1 at q
    split at q
    · rename_i j
      split at q
      · rename_i hj
        cases q
        obtain ⟨v, rfl, r1⟩ := repl1 rs
        rw [rep_int r1]
        exact ⟨j, rfl, hj.1, hj.2, h1 O1 H1 _ st R1 itok_rg⟩
      · cases q
    · cases q
theorem pmi_range2 (hg : Gl X "range") (hm : X.mg "range" = none) (ha : PMA X w W [a, b] mr) (hst : starEach [a, b] X.env = [(false, eval a X.env), (false, eval b X.env)] := by rfl) (hst2 : starEach [b] X.env = [(false, eval b X.env)] := by rfl) : PMI X w W tg (.Call (.Name "range" p) [a, b] [] pos) (mItA rng2 mr) := by
  obtain ⟨t, pa, s⟩ := ha
  refine ⟨_, pi_range2 hg hm pa hst hst2, fun F O ρ σ H R hw R0 hh => ?_⟩
  subst hw
  refine s.bind rfl R0 hh fun xs vs ρ1 O1 H1 st R1 rs h1 => ?_
  cases q : rng2 xs with
  | none => rw [q] at h1; exact h1.elim
  | some ds =>
    rw [q] at h1
    unfold rng2 at q
    split at q
    · rename_i i j
      split at q
      · rename_i hj
        cases q
        obtain ⟨v, u, rfl, r1, r2⟩ := repl2 rs
        rw [rep_int r1, rep_int r2]
        exact ⟨i, j, rfl, hj, h1 O1 H1 _ st R1 itok_rg⟩
      · cases q
    · cases q
end

/-! ### for -/
def mFor (mi : MI) (g : MG) (body : MS) : MS := fun ρ => (mi ρ).bind fun ds ρ1 => mLoop g body ds ρ1
section
variable {w : Wd} {W : WX} {X : Cx} {pos : Pos} {it tg : Expr} {mi : MI} {body : List Stmt} {mb : MS} {g : MG} {js : List Nat}
theorem pms_for (hp : PassesOwn (model X.prog X.w) X.A X.env X.xe) (hc : X.calm = true) (hi : PMI X w W tg it mi) (hg : PMG X w tg g js) (hb : PMSs X w W body mb) (hs : ∀ x, foldedSetIterable it X.env x = pure x := by intro _; rfl) :
    PMS X w W (.For tg it body [] pos) (mFor mi g mb) := by
  obtain ⟨wi, pi, si⟩ := hi
  obtain ⟨gg, pg, sg⟩ := hg
  obtain ⟨tb, pb, sb⟩ := hb
  refine ⟨_, ps_for hp hc pi pg pb hs, fun F O ρ σ H E hw R hh => ?_⟩
  refine si.bindS hw R hh fun ds J ρ1 O1 H1 st1 R1 io h1 => ?_
  obtain ⟨G, Y, wk, hG, hY⟩ := io
  refine for_it wk (fun i σ' H' => ∃ O' ρ', Step O1 H1 O' H' ∧ Rel F O' ρ' σ' H' ∧ HoldS F W O1 H1 E (mLoop g mb (ds.drop i) ρ')) ⟨O1, ρ1, Step.refl _ _, R1, h1⟩ ?_ ?_ ?_
  · rintro i σ' H' _ ⟨O', ρ', st, R', _⟩
    exact hG O' H' st
  · rintro i x σ' H' H'' hi ⟨O', ρ', st, R', hl⟩ y
    obtain ⟨gr, d, ed, rd⟩ := hY i O' H' x H'' hi st R'.dom y
    rw [ed] at hl
    exact loop_turn sg sb hw (R'.grow gr) (hw ▸ rd) (st.trans gr.step) hl fun O3 ρ3 σ3 H3 st3 R3 h3 => ⟨O3, ρ3, st3, R3, h3⟩
  · rintro σ' H' ⟨O', ρ', st, R', hl⟩
    rw [List.drop_length] at hl
    exact hl O' σ' H' st R'
end

/-! ### a frame within the frame: nothing but the slots' own lists is changed -/
def ownAt (ρ : En) (σ : St) (a : Addr) : Prop := ∃ (i : Nat) (m : Mu), ρ[i]? = some (.own m) ∧ σ[i]? = some (some (.ref a))
open Classical in
noncomputable def heLess (ρ : En) (σ : St) (H : Hp) : Hp := fun a => if ownAt ρ σ a then none else H a
section
variable {F : Fr} {O : Av} {ρ : En} {σ : St} {H : Hp}
theorem heLess_some {a : Addr} {o : HO} (h : heLess ρ σ H a = some o) : H a = some o ∧ ¬ ownAt ρ σ a := by
  unfold heLess at h
  split at h
  · cases h
  · exact ⟨h, by assumption⟩
theorem heLess_not {a : Addr} (h : ¬ ownAt ρ σ a) : heLess ρ σ H a = H a := by
  unfold heLess
  rw [if_neg h]
theorem heLess_own {a : Addr} (h : ownAt ρ σ a) : heLess ρ σ H a = none := by
  unfold heLess
  rw [if_pos h]
/-- the frame within, with d guarded besides -/
noncomputable def Fr.within (F : Fr) (ρ : En) (σ : St) (H : Hp) (d : Addr) : Fr := ⟨F.w, ins F.B d, F.Io, heLess ρ σ H⟩
theorem own_he (R : Rel F O ρ σ H) {a : Addr} (h : ownAt ρ σ a) : F.He a = none := by
  obtain ⟨i, m, e1, e2⟩ := h
  obtain ⟨b, q1, q2, q3, _⟩ := R.slot i _ e1
  rw [e2] at q1
  cases q1
  exact q3
theorem Rel.within (R : Rel F O ρ σ H) {d : Addr} (hd : O d) (ap : Apart ρ σ d) : Rel (F.within ρ σ H d) O ρ σ H where
  len := R.len
  b0 := fun a h => h.elim (R.b0 a) fun e => by rw [e]; exact hd
  bh := fun a h => by
    have na : ¬ ownAt ρ σ a := fun ow => by
      rcases h with h | h
      · exact R.bh a h (own_he R ow)
      · obtain ⟨i, m, e1, e2⟩ := ow
        subst h
        exact ap i _ e1 rfl e2
    show heLess ρ σ H a ≠ none
    rw [heLess_not na]
    rcases h with h | h
    · exact R.dom a (R.b0 a h)
    · rw [h]
      exact R.dom d hd
  ib := fun i a h => .inl (R.ib i a h)
  dom := R.dom
  doh := fun a h => by
    have h : heLess ρ σ H a ≠ none := h
    cases e : heLess ρ σ H a with
    | none => exact absurd e h
    | some o => rw [(heLess_some e).1]; simp
  keep := fun a o h _ => (heLess_some h).1
  slot := fun i s e => by
    have q := R.slot i s e
    cases s with
    | non => trivial
    | val d => exact q
    | own m =>
      obtain ⟨b, q1, q2, q3, q4⟩ := q
      exact ⟨b, q1, q2, heLess_own ⟨i, m, e, q1⟩, q4⟩
    | io m => exact q
  dist := R.dist
/-- back, behind it: d is as it was -/
theorem Rel.without (R0 : Rel F O ρ σ H) {d : Addr} {o : HO} (hd : H d = some o) (ap : Apart ρ σ d) (hb : ¬ F.B d) {O' : Av} {ρ' : En} {σ' : St} {H' : Hp} (R : Rel (F.within ρ σ H d) O' ρ' σ' H') : Rel F O' ρ' σ' H' ∧ O' d ∧ H' d = some o := by
  have nd : ¬ ownAt ρ σ d := fun ⟨i, m, e1, e2⟩ => ap i _ e1 rfl e2
  refine ⟨⟨R.len, fun a h => R.b0 a (.inl h), R0.bh, R0.ib, R.dom, fun a h => ?_, fun a o h n => ?_, fun i s e => ?_, R.dist⟩, R.b0 d (.inr rfl), R.keep d o ?_ fun i q => hb (R0.ib i d q)⟩
  · have na : ¬ ownAt ρ σ a := fun ow => h (own_he R0 ow)
    refine R.doh a ?_
    show heLess ρ σ H a ≠ none
    rw [heLess_not na]
    exact R0.doh a h
  · have na : ¬ ownAt ρ σ a := fun ow => by
      rw [own_he R0 ow] at h
      cases h
    refine R.keep a o ?_ n
    show heLess ρ σ H a = some o
    rw [heLess_not na]
    exact R0.keep a o h n
  · have q := R.slot i s e
    cases s with
    | non => trivial
    | val d => exact q
    | own m =>
      obtain ⟨b, q1, q2, q3, q4⟩ := q
      refine ⟨b, q1, q2, ?_, q4⟩
      have q3 : heLess ρ σ H b = none := q3
      by_cases ow : ownAt ρ σ b
      · exact own_he R0 ow
      · rw [heLess_not ow] at q3
        exact R0.freshE q3
    | io m => exact q
  · show heLess ρ σ H d = some o
    rw [heLess_not nd]
    exact hd
/-- a guarded thing that no slot holds is changed -/
theorem Rel.updG (R : Rel F O ρ σ H) {a : Addr} {o' : HO} (ho : O a) (ap : Apart ρ σ a) (he : F.He a = none) : Rel F O ρ σ (upd H a o') := by
  have st : Step O H O (upd H a o') := mut_step ho
  refine ⟨R.len, R.b0, R.bh, R.ib, fun b q => st.dom b (R.dom b q), fun b q => st.dom b (R.doh b q), fun b o q n => ?_, fun i s e => ?_, R.dist⟩
  · rw [upd_ne fun z => by rw [z, he] at q; cases q]
    exact R.keep b o q n
  · have q := R.slot i s e
    cases s with
    | non => trivial
    | val d =>
      obtain ⟨v, q1, q2⟩ := q
      exact ⟨v, q1, Rep.step st d v q2⟩
    | own m =>
      obtain ⟨b, q1, q2, q3, q4⟩ := q
      exact ⟨b, q1, q2, q3, q4.step st (upd_ne fun z => ap i _ e rfl (z ▸ q1))⟩
    | io m =>
      obtain ⟨b, q1, q2, q4⟩ := q
      exact ⟨b, q1, q2, q4.step st (upd_ne fun z => ap i _ e rfl (z ▸ q1))⟩
end
end PM

namespace PM
open PySem L2

def wipeE (ρ : En) : List Nat → En
  | [] => ρ
  | v :: vs => (wipeE ρ vs).set v .non
theorem wipeE_get {ρ : En} {vs : List Nat} {j : Nat} {s : Sl} (h : (wipeE ρ vs)[j]? = some s) : s = .non ∨ (j ∉ vs ∧ ρ[j]? = some s) := by
  induction vs with
  | nil => exact .inr ⟨by simp, h⟩
  | cons v vs ih =>
    unfold wipeE at h
    rcases get_set h with ⟨e1, e2⟩ | ⟨e1, e2⟩
    · exact .inl e2
    · rcases ih e2 with q | ⟨q1, q2⟩
      · exact .inl q
      · exact .inr ⟨by simp [Ne.symm e1, q1], q2⟩
theorem wipeE_len {ρ : En} {vs : List Nat} : (wipeE ρ vs).length = ρ.length := by
  induction vs with
  | nil => rfl
  | cons v vs ih => simp [wipeE, ih]
theorem wipe_off {σ : St} {vs : List Nat} {j : Nat} (h : j ∉ vs) : (wipe σ vs)[j]? = σ[j]? := by rw [wipe_get, if_neg h]
theorem wipe_twice {σ : St} {vs : List Nat} : wipe (wipe σ vs) vs = wipe σ vs := by
  apply List.ext_getElem?
  intro j
  rw [wipe_get, wipe_get]
  by_cases h : j ∈ vs
  · rw [if_pos h, if_pos h]
    cases σ[j]? <;> rfl
  · rw [if_neg h, if_neg h]
section
variable {F : Fr} {O : Av} {ρ : En} {σ τ : St} {H : Hp} {vs : List Nat}
/-- the slots of a block's names are emptied; of the others nothing else than before is asked -/
theorem Rel.slots (R : Rel F O ρ τ H) (hl : ρ.length = σ.length) (hs : ∀ j, j ∉ vs → σ[j]? = τ[j]?) : Rel F O (wipeE ρ vs) σ H := by
  refine ⟨wipeE_len.trans hl, R.b0, R.bh, R.ib, R.dom, R.doh, R.keep, fun j s e => ?_, fun i j s t e1 e2 m1 m2 q => ?_⟩
  · rcases wipeE_get e with rfl | ⟨n, e⟩
    · trivial
    · rw [hs j n]
      exact R.slot j s e
  · rcases wipeE_get e1 with rfl | ⟨n1, e1⟩
    · cases m1
    · rcases wipeE_get e2 with rfl | ⟨n2, e2⟩
      · cases m2
      · rw [hs i n1, hs j n2] at q
        exact R.dist i j s t e1 e2 m1 m2 q
theorem Rel.wipe (R : Rel F O ρ σ H) : Rel F O (wipeE ρ vs) (wipe σ vs) H := R.slots (by rw [wipe_length]; exact R.len) fun j h => wipe_off h
theorem Apart.slots {a : Addr} (R : Apart ρ τ a) (hs : ∀ j, j ∉ vs → σ[j]? = τ[j]?) : Apart (wipeE ρ vs) σ a := fun j s e m => by
  rcases wipeE_get e with rfl | ⟨n, e⟩
  · cases m
  · rw [hs j n]
    exact R j s e m
/-- what lies guarded from outside the frame, and was there at its beginning, no slot may change -/
theorem Rel.apartB (R : Rel F O ρ σ H) {a : Addr} (h : F.He a ≠ none) (n : ∀ i, ¬ F.Io i a) : Apart ρ σ a := fun i s e m q => by
  have z := R.slot i s e
  cases s with
  | non => cases m
  | val d => cases m
  | own m0 =>
    obtain ⟨b, e1, e2, e3, e4⟩ := z
    rw [q] at e1
    cases e1
    exact h e3
  | io m0 =>
    obtain ⟨b, e1, e2, e4⟩ := z
    rw [q] at e1
    cases e1
    exact n i e2
end

/-! ### [e for x in it if t] -/
def mLcLoop (g : MG) (vs : List Nat) (mt : MT) (me : ME) : List D → List D → En → Rs (List D)
  | [], acc, ρ => .ok acc ρ
  | d :: ds, acc, ρ => match g d ρ with
    | none => .stuck
    | some ρ1 => match mt ρ1 with
      | .ok b ρ2 => if b = true then (match me ρ2 with
          | .ok y ρ3 => if acc.length < sizeLine then mLcLoop g vs mt me ds (acc ++ [y.1]) (wipeE ρ3 vs) else .stuck
          | _ => .stuck) else mLcLoop g vs mt me ds acc (wipeE ρ2 vs)
      | _ => .stuck
def mLc (mi : MI) (vs : List Nat) (g : MG) (mt : MT) (me : ME) : ME := fun ρ => (mi ρ).bind fun ds ρ1 => (mLcLoop g vs mt me ds [] (wipeE ρ1 vs)).bind fun acc ρ2 => .ok (.lst acc, true) (wipeE ρ2 vs)
def mYes : MT := fun ρ => .ok true ρ
theorem sim_lc {w : Wd} {W : WX} {wi : TI} {mi : MI} {gg : TG} {g : MG} {js vs : List Nat} {tt : TT} {mt : MT} {te : TE} {me : ME} (si : SimI w W wi mi) (sg : SimG w gg g js) (stt : SimT w W0 tt mt) (se : Sim w W0 te me) (hj : ∀ j ∈ js, j ∈ vs) :
    Sim w W (tLc wi gg tt te vs) (mLc mi vs g mt me) := fun F O ρ σ H Q hw R hh => by
  refine si.bind hw R hh fun ds J ρ1 O1 H1 st1 R1 io h1 => ?_
  intro Dl hD
  obtain ⟨G, Y, wk, hG, hY⟩ := io
  have hDe : F.He Dl = none := R1.freshE hD
  have hDb : ¬ F.B Dl := fun q => R1.bh Dl q hDe
  have hDi : ∀ i, ¬ F.Io i Dl := fun i q => hDb (R1.ib i Dl q)
  have g0 : Grow H1 (upd H1 Dl (.lst [])) := Grow.new hD
  have R2 : Rel F (ins O1 Dl) ρ1 σ (upd H1 Dl (.lst [])) := R1.guard g0 hD (by rw [upd_same]; simp)
  refine lc_it wk (fun i H' => ∃ (O' : Av) (ρ' : En) (acc : List D) (va : List V), Step O1 H1 O' H' ∧ Rel F O' ρ' (wipe σ vs) H' ∧ O' Dl ∧ Apart ρ' (wipe σ vs) Dl ∧ H' Dl = some (.lst va) ∧ RepL F.w O' H' acc va ∧
      Hold F W O σ H (RV F σ H) Q ((mLcLoop g vs mt me (ds.drop i) acc ρ').bind fun acc ρ2 => .ok (.lst acc, true) (wipeE ρ2 vs))) ?_ ?_ ?_ ?_
  · exact ⟨ins O1 Dl, wipeE ρ1 vs, [], [], ins_step g0 hD, R2.wipe, .inr rfl, (R1.apart hD).slots fun j h => wipe_off h, upd_same, by simp only [RepL], h1⟩
  · rintro i H' _ ⟨O', ρ', acc, va, st, _⟩
    exact hG O' H' st
  · rintro i x H' H'' hi ⟨O', ρ', acc, va, st, R', od, ap, hd, ra, hl⟩ y
    obtain ⟨gr, d, ed, rd⟩ := hY i O' H' x H'' hi st R'.dom y
    rw [ed] at hl
    have R3 : Rel F O' ρ' (wipe σ vs) H'' := R'.grow gr
    have hd3 : H'' Dl = some (.lst va) := gr _ _ hd
    have ra3 : RepL F.w O' H'' acc va := RepL.step gr.step _ _ ra
    have st3 : Step O1 H1 O' H'' := st.trans gr.step
    have Rw : Rel (F.within ρ' (wipe σ vs) H'' Dl) O' ρ' (wipe σ vs) H'' := R3.within od ap
    have nw : ¬ ownAt ρ' (wipe σ vs) Dl := fun ⟨i, m, e1, e2⟩ => ap i _ e1 rfl e2
    have heD : (F.within ρ' (wipe σ vs) H'' Dl).He Dl ≠ none := by
      show heLess ρ' (wipe σ vs) H'' Dl ≠ none
      rw [heLess_not nw, hd3]
      simp
    unfold mLcLoop at hl
    cases q : g d ρ' with
    | none => simp only [q] at hl; exact hl.elim
    | some ρa =>
      simp only [q] at hl
      refine sg (F.within ρ' (wipe σ vs) H'' Dl) O' ρ' ρa (wipe σ vs) H'' x d _ hw Rw (hw ▸ rd) q fun σa Ra out => ?_
      have ew : wipe σa vs = wipe σ vs := (out vs hj).trans wipe_twice
      have hs : ∀ j, j ∉ vs → (wipe σ vs)[j]? = σa[j]? := fun j h => by rw [← ew, wipe_off h]
      have hlen : ∀ {ρx : En} {Ox : Av} {Hx : Hp}, Rel F Ox ρx σa Hx → ρx.length = (wipe σ vs).length := fun Rx => by rw [Rx.len, ← ew, wipe_length]
      refine ⟨ew, stt (F.within ρ' (wipe σ vs) H'' Dl) O' ρa σa H'' _ hw Ra ?_⟩
      cases q2 : mt ρa with
      | stuck => simp only [q2] at hl; exact hl
      | exc x ρb => simp only [q2] at hl; exact hl.elim
      | ok b ρb =>
        simp only [q2] at hl
        intro Ob Hb b' stb Rb eb
        have eb : b' = b := eb
        subst eb
        cases b' with
        | false =>
          refine iteF ?_
          obtain ⟨Rf, ob, hb⟩ := R3.without hd3 ap hDb Rb
          refine ⟨Ob, wipeE ρb vs, acc, va, st3.trans stb, Rf.slots (hlen Rf) hs, ob, (Rb.apartB heD hDi).slots hs, hb, RepL.step stb _ _ ra3, ?_⟩
          exact hl
        | true =>
          refine iteT (se (F.within ρ' (wipe σ vs) H'' Dl) Ob ρb σa Hb _ hw Rb ?_)
          cases q3 : me ρb with
          | stuck => simp only [q3] at hl; exact hl
          | exc x ρc => simp only [q3] at hl; exact hl.elim
          | ok yv ρc =>
            simp only [q3] at hl
            intro Oc Hc v stc Rc rv
            obtain ⟨O5, s5, R5, r5, _⟩ := VlAt.release stc Rc Rb.doh rv
            obtain ⟨Rf, ob, hb⟩ := R3.without hd3 ap hDb R5
            have ap5 : Apart ρc σa Dl := R5.apartB heD hDi
            rw [if_pos trivial] at hl
            split at hl
            · rename_i hz
              have st5 : Step O' H'' O5 Hc := stb.trans s5
              have ra5 : RepL F.w O5 Hc acc va := RepL.step st5 _ _ ra3
              have R6 : Rel F O5 ρc σa (upd Hc Dl (.lst (va ++ [v]))) := Rf.updG ob ap5 hDe
              have mst : Step O5 Hc O5 (upd Hc Dl (.lst (va ++ [v]))) := mut_step ob
              refine ⟨va, hb, by rw [ra5.length]; exact hz, O5, wipeE ρc vs, acc ++ [yv.1], va ++ [v], (st3.trans st5).trans mst, R6.slots (hlen R6) hs, ob, ap5.slots hs, upd_same, ?_, hl⟩
              refine RepL.step mst _ _ (ra5.append ?_)
              simp only [RepL]
              exact ⟨v, [], rfl, r5, rfl⟩
            · exact hl.elim
  · rintro H' ⟨O', ρ', acc, va, st, R', od, ap, hd, ra, hl⟩
    rw [List.drop_length] at hl
    have hl : Hold F W O σ H (RV F σ H) Q (.ok (.lst acc, true) (wipeE ρ' vs)) := hl
    have back : ∀ j, j ∉ vs → σ[j]? = (wipe σ vs)[j]? := fun j h => (wipe_off h).symm
    exact hl O' H' (.ref Dl) (st1.trans st) (R'.slots (by rw [R'.len, wipe_length]) back) ⟨Dl, .lst acc, rfl, st1.none_back hD, od, rfl, ⟨va, hd, ra⟩, ap.slots back⟩
section
variable {w : Wd} {W : WX} {X : Cx} {pos spos py : Pos} {elt tg iter : Expr} {ifs : List Expr} {scope : Scope} {own : List (Str × Nat)} {mi : MI} {g : MG} {js : List Nat} {mt : MT} {me : ME}
def PMTs (X : Cx) (w : Wd) (W : WX) (ifs : List Expr) (m : MT) : Prop := ∃ t, PTs X ifs t ∧ SimT w W t m
theorem pmts_nil : PMTs X w W [] mYes := ⟨_, pts_nil, fun F O ρ σ H Q hw R hh => hh O H true (Step.refl _ _) R rfl⟩
theorem pmts_one {c : Expr} {m : MT} (h : PMT X w W c m) : PMTs X w W [c] m := by
  obtain ⟨t, p, s⟩ := h
  exact ⟨t, pts_one p, s⟩
/-! one reading for a judgement, whatever it was found by -/
def teOf (w : Wd) (W : WX) (m : ME) : TE := fun σ H Q => ∃ (F : Fr) (O : Av) (ρ : En), F.w = w ∧ Rel F O ρ σ H ∧ Hold F W O σ H (RV F σ H) Q (m ρ)
def ttOf (w : Wd) (W : WX) (m : MT) : TT := fun σ H Q => ∃ (F : Fr) (O : Av) (ρ : En), F.w = w ∧ Rel F O ρ σ H ∧ Hold F W O σ H RBl Q (m ρ)
def tgOf (w : Wd) (g : MG) (js : List Nat) : TG := fun v σ H Q => ∃ (F : Fr) (O : Av) (ρ ρ1 : En) (d : D), F.w = w ∧ Rel F O ρ σ H ∧ Rep F.w O H d v ∧ g d ρ = some ρ1 ∧ ∀ σ1, Rel F O ρ1 σ1 H → Out js σ σ1 → Q σ1 H
theorem sim_of {m : ME} : Sim w W (teOf w W m) m := fun F O ρ σ H Q hw R hh => ⟨F, O, ρ, hw, R, hh⟩
theorem simt_of {m : MT} : SimT w W (ttOf w W m) m := fun F O ρ σ H Q hw R hh => ⟨F, O, ρ, hw, R, hh⟩
theorem simg_of : SimG w (tgOf w g js) g js := fun F O ρ ρ1 σ H v d Q hw R h e k => ⟨F, O, ρ, ρ1, d, hw, R, h, e, k⟩
theorem PM.pe {e : Expr} {m : ME} (h : PM X w W e m) : PE X e (teOf w W m) := by
  obtain ⟨te, p, s⟩ := h
  exact ⟨fun pins s0 σ H Q I ⟨F, O, ρ, hw, R, hh⟩ => p.run pins s0 σ H Q I (s F O ρ σ H Q hw R hh)⟩
theorem PMTs.pe {e : List Expr} {m : MT} (h : PMTs X w W e m) : PTs X e (ttOf w W m) := by
  obtain ⟨te, p, s⟩ := h
  exact ⟨fun pins s0 σ H Q I ⟨F, O, ρ, hw, R, hh⟩ => p.run pins s0 σ H Q I (s F O ρ σ H Q hw R hh)⟩
theorem PMG.pe {e : Expr} (h : PMG X w e g js) : PG X e (tgOf w g js) := by
  obtain ⟨te, p, s⟩ := h
  exact ⟨fun pins s0 σ H v u Q I r ⟨F, O, ρ, ρ1, d, hw, R, hd, e, k⟩ => p.run pins s0 σ H v u Q I r (s F O ρ ρ1 σ H v d Q hw R hd e k)⟩
theorem pm_lc (hc : X.calm = true) (hN : X.N.Nodup) (hi : PMI X w W tg iter mi) (ok : BlkOk X.N X.env.scope scope own) (hj : ∀ j ∈ js, j ∈ own.map (·.2))
    (hg : ∀ (s : Shared) (H : Hp) (C : Addr) (cl : List (Str × Addr)) (fp : List Addr), PMG (X.blk s H scope (compEnvC scope cl C X.env) fp) w tg g js) (ht : ∀ (s : Shared) (H : Hp) (C : Addr) (cl : List (Str × Addr)) (fp : List Addr), PMTs (X.blk s H scope (compEnvC scope cl C X.env) fp) w W0 ifs mt)
    (he : ∀ (s : Shared) (H : Hp) (C : Addr) (cl : List (Str × Addr)) (fp : List Addr), PM (X.blk s H scope (compEnvC scope cl C X.env) fp) w W0 elt me) (hs : ∀ x, foldedSetIterable iter X.env x = pure x := by intro _; rfl) :
    PM X w W (.ListComp elt [⟨tg, iter, ifs, 0⟩] scope pos) (mLc mi (own.map (·.2)) g mt me) := by
  obtain ⟨wi, pi, si⟩ := hi
  exact ⟨_, pe_lc hc hN pi ok (fun s H C cl fp => (hg s H C cl fp).pe) (fun s H C cl fp => (ht s H C cl fp).pe) (fun s H C cl fp => (he s H C cl fp).pe) hs, sim_lc si simg_of simt_of sim_of hj⟩
theorem sims_asg {te : TE} {m : ME} {i : Nat} (se : Sim w W te m) : SimS w W (tAsg te (gName i)) (mAsg i m) := fun F O ρ σ H E hw R hh => by
  refine se.bindS hw R hh fun x v ρ1 O1 H1 st1 R1 rv h1 => ?_
  obtain ⟨O2, s2, R2, r2, s3⟩ := VlAt.release st1 R1 R.doh rv
  show E.nx _ _
  cases q : setV i x.1 ρ1 with
  | none => rw [q] at h1; exact h1.elim
  | some ρ2 =>
    rw [q] at h1
    exact h1 O2 _ H1 s3 (setV_rel R2 r2 q)
theorem sims_asgO {te : TE} {m : ME} {i : Nat} (se : Sim w W te m) : SimS w W (tAsg te (gName i)) (mAsgO i m) := fun F O ρ σ H E hw R hh => by
  refine se.bindS hw R hh fun x v ρ1 O1 H1 st1 R1 rv h1 => ?_
  show E.nx _ _
  cases q : setO i x ρ1 with
  | none => rw [q] at h1; exact h1.elim
  | some ρ2 =>
    rw [q] at h1
    exact h1 O1 _ H1 (Step.refl _ _) (setO_rel R R1 rv q)
theorem ps_lc {i : Nat} {y : Str} (hc : X.calm = true) (hN : X.N.Nodup) (hy : X.N[i]? = some y) (hyl : X.env.scope.names.lookup y = some .local) (hsw : swapsWith (.ListComp elt [⟨tg, iter, ifs, 0⟩] scope pos) (some (.Name y py)) spos.line X.env = pure true)
    (hi : PMI X w W tg iter mi) (ok : BlkOk X.N X.env.scope scope own) (hj : ∀ j ∈ js, j ∈ own.map (·.2))
    (hg : ∀ (s : Shared) (H : Hp) (C : Addr) (cl : List (Str × Addr)) (fp : List Addr), PMG (X.blk s H scope (compEnvC scope cl C X.env) fp) w tg g js) (ht : ∀ (s : Shared) (H : Hp) (C : Addr) (cl : List (Str × Addr)) (fp : List Addr), PMTs (X.blk s H scope (compEnvC scope cl C X.env) fp) w W0 ifs mt)
    (he : ∀ (s : Shared) (H : Hp) (C : Addr) (cl : List (Str × Addr)) (fp : List Addr), PM (X.blk s H scope (compEnvC scope cl C X.env) fp) w W0 elt me) (hs : ∀ x, foldedSetIterable iter X.env x = pure x := by intro _; rfl) :
    ∃ te, PS X (.Assign [.Name y py] (.ListComp elt [⟨tg, iter, ifs, 0⟩] scope pos) spos) (tAsg te (gName i)) ∧ Sim w W te (mLc mi (own.map (·.2)) g mt me) := by
  obtain ⟨wi, pi, si⟩ := hi
  exact ⟨_, ps_setLc hc hN hy hyl hsw pi ok (fun s H C cl fp => (hg s H C cl fp).pe) (fun s H C cl fp => (ht s H C cl fp).pe) (fun s H C cl fp => (he s H C cl fp).pe) hs, sim_lc si simg_of simt_of sim_of hj⟩
theorem pms_lc {i : Nat} {y : Str} {m : ME} (h : ∃ te, PS X (.Assign [.Name y py] (.ListComp elt [⟨tg, iter, ifs, 0⟩] scope pos) spos) (tAsg te (gName i)) ∧ Sim w W te m) : PMS X w W (.Assign [.Name y py] (.ListComp elt [⟨tg, iter, ifs, 0⟩] scope pos) spos) (mAsg i m) := by
  obtain ⟨te, p, s⟩ := h
  exact ⟨_, p, sims_asg s⟩
theorem pms_lcO {i : Nat} {y : Str} {m : ME} (h : ∃ te, PS X (.Assign [.Name y py] (.ListComp elt [⟨tg, iter, ifs, 0⟩] scope pos) spos) (tAsg te (gName i)) ∧ Sim w W te m) : PMS X w W (.Assign [.Name y py] (.ListComp elt [⟨tg, iter, ifs, 0⟩] scope pos) spos) (mAsgO i m) := by
  obtain ⟨te, p, s⟩ := h
  exact ⟨_, p, sims_asgO s⟩
end
end PM

namespace PM
open PySem L2

/-! ### (*x, ..) -/
def itSeq : D → Option (List D)
  | .lst ds => some ds
  | .tup ds => some ds
  | _ => none
def mStar (me : ME) (mr : MA) : MA := fun ρ => (me ρ).bind fun x ρ1 => match itSeq x.1 with
  | none => .stuck
  | some ds => (mr ρ1).bind fun ys ρ2 => .ok (ds ++ ys) ρ2
section
variable {w : Wd} {W : WX} {X : Cx} {pos p p2 : Pos} {e : Expr} {es : List Expr} {m : ME} {mr : MA}
theorem seq_rep {O : Av} {H : Hp} {d : D} {ds : List D} {v : V} (h : Rep w O H d v) (e : itSeq d = some ds) : ∃ a vs, v = .ref a ∧ (SqT w.K H a vs ∨ SqL w.K H a vs) ∧ RepL w O H ds vs := by
  unfold itSeq at e
  split at e
  · cases e
    simp only [Rep] at h
    obtain ⟨a, vs, e1, h1, h2⟩ := h
    exact ⟨a, vs, e1, .inr (sl_of_rep h1), h2⟩
  · cases e
    simp only [Rep] at h
    obtain ⟨a, vs, e1, h1, h2⟩ := h
    exact ⟨a, vs, e1, .inl (sq_of_rep h1), h2⟩
  · cases e
theorem pma_star (hK : w.K = X.K) (he : PM X w W e m) (hr : PMA X w W es mr) (hs : starEach (.Starred e p :: es) X.env = (true, eval e X.env) :: starEach es X.env := by rfl) : PMA X w W (.Starred e p :: es) (mStar m mr) := by
  obtain ⟨te, pe, se⟩ := he
  obtain ⟨tr, pr, sr⟩ := hr
  refine ⟨_, StX.pa_star pe pr hs, fun F O ρ σ H Q hw R hh => ?_⟩
  subst hw
  refine se.bind rfl R hh fun x v ρ1 O1 H1 st1 R1 rx h1 => ?_
  cases q : itSeq x.1 with
  | none => rw [q] at h1; exact h1.elim
  | some ds =>
    rw [q] at h1
    obtain ⟨a, vs, rfl, h2, h3⟩ := seq_rep rx q
    refine ⟨a, vs, rfl, hK ▸ h2, ?_⟩
    refine sr.bind rfl R1 (h1.later st1 (RB := VlsAt F.w) fun _ _ _ _ _ _ q => q) fun ys us ρ2 O2 H2 st2 R2 rs h4 => ?_
    exact h4 O2 H2 (vs ++ us) st2 R2 ((RepL.step st2 _ _ h3).append rs)

/-! ### f-strings -/
def fmtD : D → Option Vl
  | .str y => if y.length ≤ sizeLine then some (dS y) else none
  | .int i => if i.natAbs.log2 < 1920 then some (dS (toString i)) else none
  | _ => none
theorem pm_fmt (he : PM X w W e m) : PM X w W (.FormattedValue e (-1) none pos) (mOp1 fmtD m) := by
  obtain ⟨te, pe, se⟩ := he
  refine ⟨_, pe_fmt pe, fun F O ρ σ H Q hw R hh => ?_⟩
  subst hw
  refine se.bind rfl R hh fun x v ρ1 O1 H1 st1 R1 rx h1 => ?_
  cases q : fmtD x.1 with
  | none => rw [q] at h1; exact h1.elim
  | some z =>
    rw [q] at h1
    have k := Hold.go h1 st1 R1
    unfold fmtD at q
    split at q
    · rename_i y ey
      rw [ey] at rx
      split at q
      · cases q
        exact .inl ⟨y, rep_str rx, by assumption, k.str⟩
      · cases q
    · rename_i i ey
      rw [ey] at rx
      split at q
      · cases q
        exact .inr ⟨i, rep_int rx, by assumption, k.str⟩
      · cases q
    · cases q
def mJs : List ME → Str → En → Rs Vl
  | [], acc, ρ => .ok (dS acc) ρ
  | m :: ms, acc, ρ => (m ρ).bind fun x ρ1 => match x.1 with
    | .str y => if (acc ++ y).length ≤ sizeLine then mJs ms (acc ++ y) ρ1 else .stuck
    | _ => .stuck
def PMJ (X : Cx) (w : Wd) (W : WX) (es : List Expr) (ms : List ME) : Prop := ∃ ts, PJ X es ts ∧ ∀ (acc : Str) (F : Fr) (O : Av) (ρ : En) (σ : St) (H : Hp) (Q : VK), F.w = w → Rel F O ρ σ H → Hold F W O σ H (RV F σ H) Q (mJs ms acc ρ) → tJs ts acc σ H fun out H1 => Q (.str out) H1
theorem pmj_nil : PMJ X w W [] [] := ⟨_, .nil, fun acc F O ρ σ H Q hw R hh => Go.str (hh.go (Step.refl _ _) R)⟩
theorem pmj_cons {ms : List ME} (he : PM X w W e m) (hr : PMJ X w W es ms) : PMJ X w W (e :: es) (m :: ms) := by
  obtain ⟨te, pe, se⟩ := he
  obtain ⟨ts, pr, sr⟩ := hr
  refine ⟨_, .cons pe pr, fun acc F O ρ σ H Q hw R hh => ?_⟩
  subst hw
  refine se.bind rfl R hh fun x v ρ1 O1 H1 st1 R1 rx h1 => ?_
  split at h1
  · rename_i y ey
    rw [ey] at rx
    split at h1
    · rename_i hz
      exact ⟨y, rep_str rx, hz, sr (acc ++ y) F O1 ρ1 σ H1 Q rfl R1 (h1.laterV st1)⟩
    · exact h1.elim
  · exact h1.elim
theorem pm_joined {v1 v2 : Expr} {rest : List Expr} {ms : List ME} (h : PMJ X w W (v1 :: v2 :: rest) ms) : PM X w W (.JoinedStr (v1 :: v2 :: rest) pos) (mJs ms Str.empty) := by
  obtain ⟨ts, pj, sj⟩ := h
  exact ⟨_, pe_joined pj, fun F O ρ σ H Q hw R hh => sj Str.empty F O ρ σ H Q hw R hh⟩
theorem pm_joined1 (he : PM X w W e m) : PM X w W (.JoinedStr [e] pos) m := by
  obtain ⟨te, pe, se⟩ := he
  exact ⟨_, pe_joined1 pe, se⟩

/-! ### slices -/
abbrev MO := En → Rs (Option Int)
def RO : En → Av → Hp → Option Int → Option Int → Prop := fun _ _ _ b a => b = a
def SimO (w : Wd) (W : WX) (t : TO) (m : MO) : Prop := ∀ (F : Fr) (O : Av) (ρ : En) (σ : St) (H : Hp) (Q : Option Int → Hp → Prop), F.w = w → Rel F O ρ σ H → Hold F W O σ H RO Q (m ρ) → t σ H Q
def PMO (X : Cx) (w : Wd) (W : WX) (e : Option Expr) (m : MO) : Prop := ∃ t, PO X e t ∧ SimO w W t m
def mNo : MO := fun ρ => .ok none ρ
def asI : D → Option Int
  | .int i => some i
  | _ => none
def mPart (m : ME) : MO := fun ρ => (m ρ).bind fun x ρ1 => match asI x.1 with
  | some i => .ok (some i) ρ1
  | none => .stuck
theorem pmo_none : PMO X w W none mNo := ⟨_, po_none, fun F O ρ σ H Q hw R hh => hh O H none (Step.refl _ _) R rfl⟩
theorem pmo_some (he : PM X w W e m) : PMO X w W (some e) (mPart m) := by
  obtain ⟨te, pe, se⟩ := he
  refine ⟨_, po_some pe, fun F O ρ σ H Q hw R hh => ?_⟩
  subst hw
  refine se.bind rfl R hh fun x v ρ1 O1 H1 st1 R1 rx h1 => ?_
  cases q : asI x.1 with
  | none => rw [q] at h1; exact h1.elim
  | some i =>
    rw [q] at h1
    have ex : x.1 = .int i := by
      revert q
      cases x.1 <;> simp [asI]
    rw [ex] at rx
    exact ⟨i, rep_int rx, h1 O1 H1 (some i) st1 R1 rfl⟩
theorem SimO.bind {ta : TO} {ma : MO} (ha : SimO w W ta ma) {F : Fr} {O : Av} {ρ : En} {σ : St} {H : Hp} (hw : F.w = w) (R : Rel F O ρ σ H) {α β : Type} {RA : En → Av → Hp → β → α → Prop} {Q : β → Hp → Prop} {f : Option Int → En → Rs α}
    (h : Hold F W O σ H RA Q ((ma ρ).bind f)) {k : Option Int → Hp → Prop}
    (hk : ∀ (x : Option Int) (ρ1 : En) (O1 : Av) (H1 : Hp), Step O H O1 H1 → Rel F O1 ρ1 σ H1 → Hold F W O σ H RA Q (f x ρ1) → k x H1) : ta σ H k := by
  refine ha F O ρ σ H k hw R ?_
  cases e : ma ρ with
  | ok x ρ1 =>
    rw [e] at h
    intro O1 H1 v st R1 rv
    have rv : v = x := rv
    subst rv
    exact hk v ρ1 O1 H1 st R1 h
  | exc x ρ1 =>
    rw [e] at h
    exact fun O1 H1 cls d st R1 xa => h O1 H1 cls d st R1 xa
  | stuck =>
    rw [e] at h
    exact h
def cutD (xs : List D) (lo hi : Option Int) : List D := (xs.drop (HT.sIx xs.length 0 lo)).take (HT.sIx xs.length xs.length hi - HT.sIx xs.length 0 lo)
def slD (x : D) (lo hi : Option Int) : Option Vl := match x with
  | .lst ds => some (.lst (cutD ds lo hi), true)
  | .tup ds => some (.tup (cutD ds lo hi), false)
  | .str z => if z.length ≤ sizeLine then some (dS (cutS z lo hi)) else none
  | _ => none
def mSl (m : ME) (lo hi : MO) : ME := fun ρ => (m ρ).bind fun x ρ1 => (lo ρ1).bind fun a ρ2 => (hi ρ2).bind fun b ρ3 => lift (slD x.1 a b) ρ3
theorem RepL.drop {O : Av} {H : Hp} : ∀ {ds : List D} {vs : List V} (n : Nat), RepL w O H ds vs → RepL w O H (ds.drop n) (vs.drop n)
  | ds, vs, 0, h => h
  | [], vs, n + 1, h => by
    simp only [RepL] at h
    subst h
    simp [RepL]
  | d :: ds, vs, n + 1, h => by
    simp only [RepL] at h
    obtain ⟨v, vs', rfl, _, h2⟩ := h
    exact RepL.drop n h2
theorem RepL.take {O : Av} {H : Hp} : ∀ {ds : List D} {vs : List V} (n : Nat), RepL w O H ds vs → RepL w O H (ds.take n) (vs.take n)
  | ds, vs, 0, h => by simp [RepL]
  | [], vs, n + 1, h => by
    simp only [RepL] at h
    subst h
    simp [RepL]
  | d :: ds, vs, n + 1, h => by
    simp only [RepL] at h
    obtain ⟨v, vs', rfl, h1, h2⟩ := h
    simp only [List.take_succ_cons, RepL]
    exact ⟨v, _, rfl, h1, RepL.take n h2⟩
theorem RepL.cut {O : Av} {H : Hp} {ds : List D} {vs : List V} (h : RepL w O H ds vs) (lo hi : Option Int) : RepL w O H (cutD ds lo hi) (cutV vs lo hi) := by
  unfold cutD cutV
  rw [h.length]
  exact (h.drop _).take _
def rSlAll (K : PySem.W.Frag) : V → Option Int → Option Int → Hp → VK → Prop := fun x lo hi H Q => rSlL K x lo hi H Q ∨ rSlA K x lo hi H Q ∨ rSlS x lo hi H Q
theorem sl_all : SlR X (rSlAll X.K) := sl_list.or (sl_tupA.or sl_str)
theorem pm_slice (hK : w.K = X.K) {lo hi : Option Expr} {ml mh : MO} (he : PM X w W e m) (hl : PMO X w W lo ml) (hh : PMO X w W hi mh) : PM X w W (.Subscript e (.Slice lo hi none p2) pos) (mSl m ml mh) := by
  obtain ⟨te, pe, se⟩ := he
  obtain ⟨tl, pl, sl⟩ := hl
  obtain ⟨th, ph, sh⟩ := hh
  refine ⟨_, pe_slice sl_all pe pl ph, fun F O ρ σ H Q hw R hh => ?_⟩
  subst hw
  refine se.bind rfl R hh fun x v ρ1 O1 H1 st1 R1 rx h1 => ?_
  refine sl.bind rfl R1 (h1.laterV st1) fun a ρ2 O2 H2 st2 R2 h2 => ?_
  refine sh.bind rfl R2 (h2.laterV st2) fun b ρ3 O3 H3 st3 R3 h3 => ?_
  have rx := Rep.step (st2.trans st3) _ _ rx
  cases q : slD x.1 a b with
  | none => rw [q] at h3; exact h3.elim
  | some z =>
    rw [q] at h3
    have k := Hold.go h3 st3 R3
    unfold slD at q
    split at q
    · rename_i ds ey
      rw [ey] at rx
      cases q
      simp only [Rep] at rx
      obtain ⟨c, vs, rfl, g1, g2⟩ := rx
      exact .inl ⟨c, vs, rfl, hK ▸ sl_of_rep g1, fun p hp => k.newL (g2.cut a b) hp⟩
    · rename_i ds ey
      rw [ey] at rx
      cases q
      have rx' := rx
      simp only [Rep] at rx
      obtain ⟨c, vs, rfl, g1, g2⟩ := rx
      refine .inr (.inl ⟨c, vs, rfl, hK ▸ sq_of_rep g1, fun hz => ?_, fun _ p hp => k.newT R3.dom (g2.cut a b) hp⟩)
      have e0 : cutD ds a b = ds := by
        unfold cutD
        rw [← g2.length, hz.1, hz.2, g2.length]
        simp
      rw [e0] at k
      exact k.val rx'
    · rename_i z ey
      rw [ey] at rx
      split at q
      · rename_i hz
        cases q
        exact .inr (.inr ⟨z, rep_str rx, hz, k.str⟩)
      · cases q
    · cases q

/-! ### isinstance -/
inductive Ty where
  | b (n : String) | o (c : Nat)
def tyD : D → Ty
  | .non => .b "NoneType"
  | .bl _ => .b "bool"
  | .int _ => .b "int"
  | .str _ => .b "str"
  | .tup _ => .b "tuple"
  | .lst _ => .b "list"
  | .dct _ _ => .b "dict"
  | .obj c _ => .o c
  | .scr _ => .b "list"
  | .cls _ => .b "type"
def Ty.v (w : Wd) : Ty → Value
  | .b n => .type n
  | .o c => .ref (w.cl c)
/-- what of the classes must be known -/
structure ClsOk (w : Wd) (n : Nat) : Prop where
  sc : ∀ c, c < n → SlX.SCls w.K (w.cl c)
  si : ∀ c, c < n → SlX.SIsi w.K (w.cl c)
def isT (n : Nat) (ans : Ty → Option Bool) (t : Ty) : Option Vl := match t with
  | .b t => (ans (.b t)).map dB
  | .o c => if c < n then (ans (.o c)).map dB else none
def isD (n : Nat) (ans : Ty → Option Bool) (d : D) : Option Vl := match d with
  | .cls _ => none
  | d => isT n ans (tyD d)
def rIsA (K : PySem.W.Frag) (u : Value) : List V → Hp → VK → Prop := fun xs H Q => rIsi K xs H Q ∨ SlX.rIsiSl K u xs H Q
theorem call_isA (u : Value) : CallR X (.builtin "isinstance") (rIsA X.K u) := call_isi.or (SlX.call_isiSl u)
theorem isi_core {O : Av} {H : Hp} {n : Nat} {ans : Ty → Option Bool} {u : Value} {cv : V} {Q : VK} {d : D} {v : V} {z : Vl} (cok : ClsOk w n) (hcv : ClsV cv u) (hans : ∀ t b, ans t = some b → PySem.W.kitOne w.K (t.v w) u = some b) (h : Rep w O H d v) (e : isD n ans d = some z) (k : Go w O H z Q) : rIsA w.K u [v, cv] H Q := by
  have base : ∀ {t : String} {b : Bool}, TyX w.K H v (.type t) → ans (.b t) = some b → Go w O H (dB b) Q → rIsA w.K u [v, cv] H Q := fun {t b} ty ea kk => .inl ⟨v, cv, _, u, b, rfl, hcv, ty, hans _ b ea, kk.bl⟩
  unfold isD at e
  have go : ∀ {t : String}, (ans (.b t)).map dB = some z → TyX w.K H v (.type t) → rIsA w.K u [v, cv] H Q := fun {t} e ty => by
    cases q : ans (.b t) with
    | none => rw [q] at e; cases e
    | some b =>
      rw [q] at e
      cases e
      exact base ty q k
  cases d with
  | non => simp only [Rep] at h; subst h; exact go e (.base .non)
  | bl x => simp only [Rep] at h; subst h; exact go e (.base (.bl x))
  | int x => simp only [Rep] at h; subst h; exact go e (.base (.int x))
  | str x => simp only [Rep] at h; subst h; exact go e (.base (.str x))
  | tup ds =>
    simp only [Rep] at h
    obtain ⟨a, vs, rfl, h1 | ⟨o, its, n, h1, h2, _⟩, _⟩ := h
    · exact go e (.base (.tup h1.2))
    · exact go e (.kTuple h1 h2)
  | lst ds =>
    simp only [Rep] at h
    obtain ⟨a, vs, rfl, h1, _⟩ := h
    exact go e (.base (.lst h1.2))
  | scr ds =>
    simp only [Rep] at h
    obtain ⟨a, vs, rfl, ⟨o, h1⟩ | ⟨o, its, n, h1, h2, _⟩, _⟩ := h
    · exact go e (.base (.frz h1.2))
    · exact go e (.kList h1 h2)
  | dct ks ds =>
    simp only [Rep] at h
    obtain ⟨a, kvs, rfl, h1, _⟩ := h
    exact go e (.base (.dK h1.2))
  | cls c => cases e
  | obj c fs =>
    simp only [Rep] at h
    obtain ⟨a, dx, vs, rfl, hne, _, _, h1, h2, _⟩ := h
    have e : (if c < n then (ans (.o c)).map dB else none) = some z := e
    split at e
    · rename_i hc
      cases q : ans (.o c) with
      | none => rw [q] at e; cases e
      | some b =>
        rw [q] at e
        cases e
        refine .inr ⟨a, w.cl c, dx, _, cv, b, rfl, ?_, fun x hx => hcv.eq hx, .inr ⟨h1, h2⟩, cok.sc c hc, cok.si c hc, hans _ b q, k.bl⟩
        cases hcv with
        | ty n => rfl
        | own C => rfl
    · cases e
theorem sim_isi {n : Nat} {ans : Ty → Option Bool} {u : Value} {cv : V} {te : TE} (cok : ClsOk w n) (hcv : ClsV cv u) (hans : ∀ t b, ans t = some b → PySem.W.kitOne w.K (t.v w) u = some b) (se : Sim w W te m) : Sim w W (tCB (rIsA w.K u) (tCons te (tCons (tC cv) tNil))) (mOp1 (isD n ans) m) := fun F O ρ σ H Q hw R hh => by
  subst hw
  refine se.bind rfl R hh fun x v ρ1 O1 H1 st1 R1 rx h1 => ?_
  cases e : isD n ans x.1 with
  | none => rw [e] at h1; exact h1.elim
  | some z =>
    rw [e] at h1
    exact isi_core cok hcv hans rx e (h1.go st1 R1)
/-- isinstance(e, T), T a built-in class -/
theorem pm_isiB {n : Nat} {ans : Ty → Option Bool} {T : String} {x : Str} (hK : w.K = X.K) (cok : ClsOk w n) (hans : ∀ t b, ans t = some b → PySem.W.kitOne w.K (t.v w) (.type T) = some b) (hg : Gl X "isinstance") (hm : X.mg "isinstance" = none) (hgT : Gl X x) (hmT : X.mg x = none) (hvT : bootBuiltins x = some (.type T)) (he : PM X w W e m)
    (hnT : x ≠ "__name__" := by decide) (hdT : (x == ("__debug__" : Str)) = false := by decide) (hs : starEach [e, .Name x p2] X.env = (false, eval e X.env) :: starEach [.Name x p2] X.env := by rfl) (hs2 : starEach [.Name x p2] X.env = (false, eval (.Name x p2) X.env) :: starEach [] X.env := by rfl)
    (hpl : (backTo pos (starEach [.Name x p2] X.env)).any (·.1) = false := by rfl) : PM X w W (.Call (.Name "isinstance" p) [e, .Name x p2] [] pos) (mOp1 (isD n ans) m) := by
  obtain ⟨te, pe, se⟩ := he
  refine ⟨_, pe_callB (call_isA (.type T)) hg hm (by decide +kernel) (pa_cons pe (pa_cons (pe_bltn (v := .ty T) hgT hmT hvT rfl hnT hdT) pa_nil hs2) hs) (by decide) (by decide) hs hpl, ?_⟩
  rw [← hK]
  exact sim_isi cok (.ty T) hans se
/-- isinstance(e, C), C a class of one's own -/
theorem pm_isiC {n : Nat} {ans : Ty → Option Bool} {C : Addr} {x : Str} (hK : w.K = X.K) (cok : ClsOk w n) (hans : ∀ t b, ans t = some b → PySem.W.kitOne w.K (t.v w) (.ref C) = some b) (hg : Gl X "isinstance") (hm : X.mg "isinstance" = none) (hgT : Gl X x) (hmT : X.mg x = some (.ref C)) (he : PM X w W e m)
    (hdT : (x == ("__debug__" : Str)) = false := by decide) (hs : starEach [e, .Name x p2] X.env = (false, eval e X.env) :: starEach [.Name x p2] X.env := by rfl) (hs2 : starEach [.Name x p2] X.env = (false, eval (.Name x p2) X.env) :: starEach [] X.env := by rfl)
    (hpl : (backTo pos (starEach [.Name x p2] X.env)).any (·.1) = false := by rfl) : PM X w W (.Call (.Name "isinstance" p) [e, .Name x p2] [] pos) (mOp1 (isD n ans) m) := by
  obtain ⟨te, pe, se⟩ := he
  refine ⟨_, pe_callB (call_isA (.ref C)) hg hm (by decide +kernel) (pa_cons pe (pa_cons (pe_glob (v := .ref C) hgT hmT rfl hdT) pa_nil hs2) hs) (by decide) (by decide) hs hpl, ?_⟩
  rw [← hK]
  exact sim_isi cok (.own C) hans se

/-! ### -x; in; is -/
def negD : D → Option Vl
  | .int i => some (dI (-i))
  | _ => none
theorem pm_neg (he : PM X w W e m) : PM X w W (.UnaryOp .USub e pos) (mOp1 negD m) := pm_un un_neg (fun O H x z vx Q dm e hx k => by
  unfold negD at e
  split at e
  · cases e
    exact ⟨_, rep_int hx, k.int⟩
  · cases e) he
end
end PM

namespace PM
open PySem L2

/-! ### a def's call, told by values -/
def fnN (f : Fn) (xs : List D) : Option Vl := match f none xs with
  | .ret z none => some z
  | _ => none
theorem sp_of {w : Wd} {O : Av} {H : Hp} {f : Fn} {xs : List D} {vs : List V} {z : Vl} {Q : VK} {E : XK} {k : Nat} (dm : Dm O H) (hl : xs.length = k) (e : fnN f xs = some z) (rs : RepL w O H xs vs) (g : Go w O H z Q) : spOf w k f vs H Q E := by
  refine ⟨O, none, xs, dm, by rw [rs.length]; exact hl, rs, ?_⟩
  unfold fnN at e
  split at e
  · rename_i x hx
    cases e
    rw [hx]
    refine ⟨rfl, fun H' v sy rf => ?_⟩
    have gr : Grow H H' := fun a o q => sy.kept a o (fun q => by cases q.1) q
    obtain ⟨d, b⟩ := z
    cases b with
    | false => exact g v H' gr rf.1
    | true =>
      obtain ⟨a, m, e1, e2, e3, e4, _⟩ := rf
      exact g v H' gr ⟨a, m, e1, e2, e3, e4⟩
  · cases e
def isObj (c : Nat) : D → Bool
  | .obj c' _ => c' == c
  | _ => false
theorem isObj_some {c : Nat} {d : D} (h : isObj c d = true) : ∃ fs, d = .obj c fs := by
  cases d <;> simp [isObj] at h
  subst h
  exact ⟨_, rfl⟩
theorem slt_of {w : Wd} {O : Av} {H : Hp} {c : Nat} {fs : List D} {v : V} (h : Rep w O H (.obj c fs) v) : ∃ a dx vs, v = .ref a ∧ SlX.Slt H a (w.cl c) dx (vs.map some) ∧ RepL w O H fs vs := by
  simp only [Rep] at h
  obtain ⟨a, dx, vs, rfl, hne, _, _, h1, h2, h3⟩ := h
  exact ⟨a, dx, vs, rfl, .inr ⟨h1, h2⟩, h3⟩
/-- a def that is a method: its place, how many arguments, how deep, what it is worth -/
def MthOk (P : Program) (wo : World) (K : PySem.W.Frag) (mg : Str → Option Value) (base : Heap) (w : Wd) (g : Addr) (n j : Nat) (f : Fn) : Prop := FnR P wo K mg base CX0 j g (spOf w n f)
theorem mth_of {P : Program} {wo : World} {K : PySem.W.Frag} {mg : Str → Option Value} {base : Heap} {w : Wd} {g : Addr} {j : Nat} {f : Fn} {fd : FuncData} {ps : List Str} (F : FnP false P wo K mg base j g fd ps (spOf w ps.length f)) (hb : Binds K fd ps []) : MthOk P wo K mg base w g ps.length j f := by
  have F : FnOk P wo K mg base CX0 j g fd ps (spOf w ps.length f) := F
  exact (F.raw hb .nil).imp fun vs H Q E h => by rw [List.append_nil]; exact h

/-! ### e.f, a slot -/
def fldD (ix : Nat → Option Nat) : D → Option Vl
  | .obj c fs => (ix c).bind fun i => (fs[i]?).map fun d => (d, false)
  | _ => none
def SlotsOk (w : Wd) (f : Str) (ix : Nat → Option Nat) : Prop := ∀ c i, ix c = some i → SlX.SCls w.K (w.cl c) ∧ ∃ p, SlX.Slot1 w.K (w.cl c) f p i
section
variable {w : Wd} {W : WX} {X : Cx} {pos pos' apos p : Pos} {e e' o : Expr} {es : List Expr} {m m' : ME} {mr : MA} {f : Str}
theorem pm_fld {ix : Nat → Option Nat} (hK : w.K = X.K) (hs : SlotsOk w f ix) (he : PM X w W e m) (hb : attributeBase e f X.env (eval e X.env) = eval e X.env := by rfl) : PM X w W (.Attribute e f pos) (mOp1 (fldD ix) m) := by
  obtain ⟨te, pe, se⟩ := he
  refine ⟨_, SlX.pe_sl pe hb, ?_⟩
  rw [← hK]
  refine sim_op1 (r := fun x H1 Q => ∃ a C dx p vs i v, x = .ref a ∧ SlX.Slt H1 a C dx vs ∧ SlX.SCls w.K C ∧ SlX.Slot1 w.K C f p i ∧ vs[i]? = some (some v) ∧ Q v H1) (fun O H x z vx Q dm ez hx k => ?_) se
  cases x with
  | obj c fs =>
    obtain ⟨a, dx, vs, rfl, hsl, hr⟩ := slt_of hx
    have ez : ((ix c).bind fun i => (fs[i]?).map fun d => ((d, false) : Vl)) = some z := ez
    cases q : ix c with
    | none => rw [q] at ez; cases ez
    | some i =>
      rw [q] at ez
      have ez : (fs[i]?).map (fun d => ((d, false) : Vl)) = some z := ez
      cases q2 : fs[i]? with
      | none => rw [q2] at ez; cases ez
      | some d =>
        rw [q2] at ez
        cases ez
        obtain ⟨v, e1, e2⟩ := hr.get q2
        obtain ⟨h1, p, h2⟩ := hs c i q
        exact ⟨a, w.cl c, dx, p, _, i, v, rfl, hsl, h1, h2, by rw [List.getElem?_map, e1]; rfl, k.val e2⟩
  | _ => cases ez

/-! ### e.f, a property; e.m(..) -/
def objN (c : Nat) (f : Fn) (xs : List D) : Option Vl := match xs with
  | x :: _ => if isObj c x = true then fnN f xs else none
  | [] => none
structure PropOk (w : Wd) (c : Nat) (f : Str) (g : Addr) : Prop where
  sc : SlX.SCls w.K (w.cl c)
  ex : ∃ p, PySem.W.findIn w.K (.ref (w.cl c)) f = some (some (.ref p)) ∧ PySem.W.specialIn w.K (.ref p) "__get__" = some (some (.builtin "property.__get__")) ∧ PySem.W.takesIn w.K (.ref p) = some true ∧ ∃ rest, PySem.W.recIn w.K p "property" = some (.ref g :: rest)
theorem pm_prop {c : Nat} {g : Addr} {n : Nat} {fn : Fn} (hK : w.K = X.K) (hp : PropOk w c f g) (F : MthOk X.prog X.w X.K X.mg X.base w g 1 n fn) (hr : Room (n + 1) X.A) (he : PM X w W e m) (hb : attributeBase e f X.env (eval e X.env) = eval e X.env := by rfl) :
    PM X w W (.Attribute e f pos) (mOp1 (fun x => objN c fn [x]) m) := by
  obtain ⟨te, pe, se⟩ := he
  obtain ⟨sc, p, h1, h2, h3, h4⟩ := hp
  rw [hK] at sc h1 h2 h3 h4
  refine ⟨_, SlX.pe_propSl (E := E0) pe sc h1 h2 h3 h4 F hr (fun _ _ _ _ z => z) hb, ?_⟩
  refine sim_op1 (r := fun x H1 Q => ∃ a dx vs, x = .ref a ∧ SlX.Slt H1 a (w.cl c) dx vs ∧ spOf w 1 fn [.ref a] H1 Q E0) (fun O H x z vx Q dm ez hx k => ?_) se
  unfold objN at ez
  simp only at ez
  split at ez
  · rename_i ho
    obtain ⟨fs, rfl⟩ := isObj_some ho
    obtain ⟨a, dx, vs, rfl, hsl, hrr⟩ := slt_of hx
    exact ⟨a, dx, _, rfl, hsl, sp_of dm rfl ez (by simp only [RepL]; exact ⟨.ref a, [], rfl, hx, rfl⟩) k⟩
  · cases ez
structure MethOk (w : Wd) (c : Nat) (f : Str) (g : Addr) : Prop where
  sc : SlX.SCls w.K (w.cl c)
  mt : Meth w.K (w.cl c) f g
def mMeth (c : Nat) (fn : Fn) (m : ME) (mr : MA) : ME := fun ρ => (m ρ).bind fun x ρ1 => if isObj c x.1 = true then (mr ρ1).bind fun xs ρ2 => lift (fnN fn (x.1 :: xs)) ρ2 else .stuck
theorem sim_meth {c k : Nat} {fn : Fn} {ta : TE} {t : TA} (sa : Sim w W ta m) (sr : SimA w W t mr) (hn : ∀ (ρ ρ1 : En) (xs : List D), mr ρ = .ok xs ρ1 → xs.length + 1 = k) : Sim w W (SlX.tMethSl (w.cl c) (spOf w k fn) E0 ta t) (mMeth c fn m mr) := fun F O ρ σ H Q hw R hh => by
  subst hw
  refine sa.bind rfl R hh fun x v ρ1 O1 H1 st1 R1 rx h1 => ?_
  split at h1
  · rename_i ho
    obtain ⟨fs, ex⟩ := isObj_some ho
    have rx' := rx
    rw [ex] at rx'
    obtain ⟨a, dx, vs, rfl, hsl, hrr⟩ := slt_of rx'
    refine ⟨a, dx, _, rfl, hsl, ?_⟩
    have key : Hold F W O1 σ H1 (RV F σ H1) Q ((mr ρ1).bind fun xs ρ2 => if xs.length + 1 = k then lift (fnN fn (x.1 :: xs)) ρ2 else .stuck) := by
      have h1 := h1.laterV st1
      cases q : mr ρ1 with
      | ok xs ρ2 =>
        rw [q] at h1
        show Hold F W O1 σ H1 (RV F σ H1) Q (if xs.length + 1 = k then _ else _)
        rw [if_pos (hn ρ1 ρ2 xs q)]
        exact h1
      | exc x ρ2 => rw [q] at h1; exact h1
      | stuck => rw [q] at h1; exact h1
    refine sr.bind rfl R1 key fun xs us ρ2 O2 H2 st2 R2 rs h2 => ?_
    split at h2
    · rename_i hk
      cases q : fnN fn (x.1 :: xs) with
      | none => rw [q] at h2; exact h2.elim
      | some z =>
        rw [q] at h2
        exact sp_of R2.dom (by simpa using hk) q (by simp only [RepL]; exact ⟨_, us, rfl, Rep.step st2 _ _ rx, rs⟩) (h2.go st2 R2)
    · exact h2.elim
  · exact h1.elim
theorem pm_meth {c n k : Nat} {g : Addr} {fn : Fn} {pl : Sem Bool} (hK : w.K = X.K) (hp : MethOk w c f g) (F : MthOk X.prog X.w X.K X.mg X.base w g (n + 1) k fn) (hr : Room k X.A) (ho : PM X w W o m) (ha : PMA X w W (e :: es) mr) (hn : Len mr n)
    (hst : starEach (e :: es) X.env = (false, eval e X.env) :: starEach es X.env := by rfl) (hpl : (backTo pos (starEach es X.env)).any (·.1) = false := by rfl)
    (ht : eval (.Call (.Attribute o f apos) (e :: es) [] pos) X.env = (do
      let ov ← eval o X.env
      standAt apos.atName
      let (f, first) ← holding [ov] (getMethod ov f pl)
      callWith pos f first (backTo pos (starEach (e :: es) X.env)) (backToKw pos (keywordEach [] X.env))) := by rfl) : PM X w W (.Call (.Attribute o f apos) (e :: es) [] pos) (mMeth c fn m mr) := by
  obtain ⟨to, po, so⟩ := ho
  obtain ⟨ta, pa, sa⟩ := ha
  exact ⟨_, SlX.pe_methSl (pl := pl) (E := E0) po (hK ▸ hp.sc) (hK ▸ hp.mt) F hr pass0 pa hst hpl ht, sim_meth so sa fun ρ ρ1 xs q => by rw [hn ρ ρ1 xs q]⟩
theorem pm_meth0 {c k : Nat} {g : Addr} {fn : Fn} {pl : Sem Bool} (hK : w.K = X.K) (hp : MethOk w c f g) (F : MthOk X.prog X.w X.K X.mg X.base w g 1 k fn) (hr : Room k X.A) (ho : PM X w W o m)
    (ht : eval (.Call (.Attribute o f apos) [] [] pos) X.env = (do
      let ov ← eval o X.env
      standAt apos.atName
      let (f, first) ← holding [ov] (getMethod ov f pl)
      callWith pos f first (backTo pos (starEach [] X.env)) (backToKw pos (keywordEach [] X.env))) := by rfl) : PM X w W (.Call (.Attribute o f apos) [] [] pos) (mMeth c fn m mNil) := by
  obtain ⟨to, po, so⟩ := ho
  exact ⟨_, SlX.pe_methSl0 (pl := pl) (E := E0) po (hK ▸ hp.sc) (hK ▸ hp.mt) F hr pass0 ht, sim_meth so sima_nil fun ρ ρ1 xs q => by cases q; rfl⟩

/-! ### operators of one's own -/
def rOwnB (C : Addr) (sp : Sp) : R2 := fun x y H Q => ∃ a dx vs b dy ws, x = .ref a ∧ y = .ref b ∧ SlX.Slt H a C dx vs ∧ SlX.Slt H b C dy ws ∧ sp [x, y] H Q E0
theorem op_ownB {op : Operator} {C g : Addr} {sp : Sp} {n : Nat} (hc : PySem.W.selfFirst X.K C = true) (hs : PySem.W.findIn X.K (.ref C) (PySem.dunder op.info.2) = some (some (.ref g))) (hf : PySem.W.isFn X.K (.ref g) = true) (F : FnR X.prog X.w X.K X.mg X.base CX0 n g sp) (hr : Room n X.A) : OpR X (binaryOp op) (rOwnB C sp) := by
  intro pins s σ H x y v u Q I rx ry h
  obtain ⟨a, dx, vs, b, dy, ws, rfl, rfl, ha, hb, q⟩ := h
  cases (show v = Value.ref a from rx)
  cases (show u = Value.ref b from ry)
  obtain ⟨sl, od, _, J, _⟩ := SlX.slt_inst I ha
  obtain ⟨sl', od', _, J', _⟩ := SlX.slt_inst I hb
  obtain ⟨m, hF⟩ := I.fr
  refine PySem.W.binop_K (op := op) hF I.ok.mod.kin J J'.type hc hs hf ?_
  refine wpAny_mono (wpAny_call (run_fnR (us := [.ref a, .ref b]) (vs := [.ref a, .ref b]) F hr pass0 I (.cons rfl (.cons rfl .nil)) q)) (fun w s' z => ?_) fun _ _ x => x
  obtain ⟨z', H', I', rz, qz⟩ := z
  exact SlX.cmpback rz ⟨z', H', I', rz, qz⟩
def objOp (c : Nat) (f : Fn) (x y : D) : Option Vl := if isObj c x = true ∧ isObj c y = true then fnN f [x, y] else none
theorem o2_own {c : Nat} {fn : Fn} : Op2 w (rOwnB (w.cl c) (spOf w 2 fn)) (objOp c fn) := fun O H x y z vx vy Q dm e hx hy k => by
  unfold objOp at e
  split at e
  · rename_i ho
    obtain ⟨fs, rfl⟩ := isObj_some ho.1
    obtain ⟨gs, rfl⟩ := isObj_some ho.2
    obtain ⟨a, dx, vs, ea, h1, _⟩ := slt_of hx
    obtain ⟨b, dy, us, eb, h2, _⟩ := slt_of hy
    refine ⟨a, dx, _, b, dy, _, ea, eb, h1, h2, sp_of dm rfl e ?_ k⟩
    simp only [RepL]
    exact ⟨vx, [vy], rfl, hx, vy, [], rfl, hy, rfl⟩
  · cases e
def orD (f g : D → D → Option Vl) (x y : D) : Option Vl := match f x y with
  | some z => some z
  | none => g x y
theorem Op2.or {r r' : R2} {f g : D → D → Option Vl} (h : Op2 w r f) (h' : Op2 w r' g) : Op2 w (fun x y H Q => r x y H Q ∨ r' x y H Q) (orD f g) := fun O H x y z vx vy Q dm e hx hy k => by
  unfold orD at e
  split at e
  · rename_i z' q
    cases e
    exact .inl (h O H x y z vx vy Q dm q hx hy k)
  · exact .inr (h' O H x y z vx vy Q dm e hx hy k)
structure OpOk (w : Wd) (c : Nat) (nm : Str) (g : Addr) : Prop where
  sf : PySem.W.selfFirst w.K (w.cl c) = true
  at_ : PySem.W.findIn w.K (.ref (w.cl c)) nm = some (some (.ref g))
  fn : PySem.W.isFn w.K (.ref g) = true
theorem pm_addO {c n : Nat} {g : Addr} {fn : Fn} (hK : w.K = X.K) (hp : OpOk w c "__add__" g) (F : MthOk X.prog X.w X.K X.mg X.base w g 2 n fn) (hr : Room n X.A) (ha : PM X w W e m) (hb : PM X w W e' m') : PM X w W (.BinOp e .Add e' pos) (mOp2 (orD addD (objOp c fn)) m m') :=
  pm_bin (op_addA.or (op_ownB (op := .Add) (hK ▸ hp.sf) (hK ▸ hp.at_) (hK ▸ hp.fn) F hr)) (Op2.or (hK ▸ o2_add) o2_own) ha hb
theorem pm_orO {c n : Nat} {g : Addr} {fn : Fn} (hK : w.K = X.K) (hp : OpOk w c "__or__" g) (F : MthOk X.prog X.w X.K X.mg X.base w g 2 n fn) (hr : Room n X.A) (ha : PM X w W e m) (hb : PM X w W e' m') : PM X w W (.BinOp e .BitOr e' pos) (mOp2 (objOp c fn) m m') :=
  pm_bin (op_ownB (op := .BitOr) (hK ▸ hp.sf) (hK ▸ hp.at_) (hK ▸ hp.fn) F hr) o2_own ha hb
end
end PM

namespace PM
open PySem PySem.Spec PyProof.Rows PySem.W

section
variable {prog : Program} {w : World} {A : Around} {E : Value → Shared → Prop} {s : Shared} {K : Frag} {x C L f : Addr} {h₀ : Heap} {m : Str → Option Value} {ox : Obj} {od : Option Obj} {b tb : Value}
/-- a special method that is object's own, found in a class -/
theorem bound_ne {M : Model} {args : List Value} {Q : Option Value → Shared → Prop} (X : K.In s.heap) (I : InstAt s.heap x ox C od) (hs : findIn K (.ref C) "__ne__" = some (some (.builtin "object.__ne__")))
    (h : wpAny M A (call (.builtin "object.__ne__") (.ref x :: args)) (fun v => Q (some v)) E s) : wpAny M A (callSpecialIfBound? (.ref x) "__ne__" args) Q E s := by
  have last : wpAny M A (call (.builtin "object.__ne__") ([.ref x] ++ args) >>= fun v => pure (some v)) Q E s := wpAny_bind (wpAny_mono h (fun v s' q => wpAny_pure q) fun _ _ q => q)
  simp only [callSpecialIfBound?, bindSpecialIfBound?]
  refine wpAny_holding (wpAny_bind (wpAny_bind (wpAny_bind (I.type.here ((looks_findIn X hs).here ?_)))))
  refine wpAny_bind (wpAny_askSetting (wpAny_ite ?_))
  split
  · exact wpAny_bind (wpAny_of_eq (F.cmp_object.ne.bind _) (wpAny_pure last))
  · exact wpAny_tryCatch (wpAny_bind (wpAny_of_eq (F.cmp_object.ne.bind _) (wpAny_pure last)))
theorem entry_neK {Q : Fin → Shared → Prop} (hu : A.units < cLine) (X : K.In s.heap) (I : InstAt s.heap x ox C od) (hs : findIn K (.ref C) "__eq__" = some (some (.ref f))) (hf : isFn K (.ref f) = true)
    (h : wpAny (model prog w) A (call (.ref f) [.ref x, b]) (fun v s' => ∃ k, v = .bool k ∧ Q (.done (.ret (.bool (!k)))) s') E s) : wpAny (model prog w) A (Builtin.«object.__ne__» ⟨[.ref x, b], []⟩) Q E s := by
  have main : wpAny (model prog w) A (callSpecialIfBound? (.ref x) "__eq__" [b]) (fun r s' => ∃ k, r = some (.bool k) ∧ Q (.done (.ret (.bool (!k)))) s') E s := ifBound_K X I hs hf (wpAny_mono h (fun v s' ⟨k, e, q⟩ => ⟨k, by rw [e], q⟩) fun _ _ q => q)
  unfold Builtin.«object.__ne__»
  repeat (first | with_reducible refine wpAny_cRoomFor hu ?_ | with_reducible refine wpAny_mono main (fun r s' z => ?_) fun _ _ q => q | wp_step)
  obtain ⟨k, rfl, q⟩ := z
  repeat (first | with_reducible refine wpAny_truthy_bool ?_ | wp_step)
  exact q
theorem ne_K {Q : Value → Shared → Prop} (hu : A.units + 1 < cLine) (Fm : PyProof.Rows.Fr h₀ L s.heap m) (X₀ : K.In h₀) (I : InstAt s.heap x ox C od) (hb : Looks (model prog w) s.heap (typeOf b) tb) (hn : notFirst K C tb = true) (hne : findIn K (.ref C) "__ne__" = some (some (.builtin "object.__ne__")))
    (hm : mroIn K C (.type "object") = some true) (hs : findIn K (.ref C) "__eq__" = some (some (.ref f))) (hf : isFn K (.ref f) = true)
    (h : wpAny (model prog w) A.in1 (call (.ref f) [.ref x, b]) (fun v s' => ∃ k, v = .bool k ∧ Q (.bool (!k)) s') E s) : wpAny (model prog w) A (richCompare .NotEq (.ref x) b) Q E s := by
  have X := X₀.keeps Fm.keep
  have one : wpAny (model prog w) A (tryCompare (.ref x) "__ne__" b) (fun r s' => ∃ v, r = some v ∧ Q v s') E s := by
    unfold tryCompare
    refine wpAny_bind (bound_ne X I hne ?_)
    refine wpAny_call (codeAny_call_builtin F.cmp_object.ne.plain F.cmpEntry_ne (check_slot F.cmpKind_ne F.cmpSplit_ne (I.type.andThen (looks_mroIn X hm)) (F.cmpArgs_ne _ _) ?_))
    refine entry_neK (A := A.in1) hu X I hs hf (wpAny_mono h (fun v s' ⟨k, e, q⟩ => ⟨k, e, ?_⟩) fun _ _ q => q)
    exact wpAny_pure ⟨_, rfl, q⟩
  unfold richCompare
  simp only [oneThing_ref]
  refine wpAny_holding (wpAny_bind (wpAny_cRoomFor (by omega) ?_))
  refine wpAny_bind (I.type.here (wpAny_bind (hb.here ?_)))
  split
  · rename_i q
    have e : subIn K tb (.ref C) = some false := by
      rcases Bool.or_eq_true_iff.mp hn with e | e
      · rw [beq_iff_eq.mp e] at q; simp at q
      · exact beq_iff_eq.mp e
    refine wpAny_bind ((looks_subIn X e).here ?_)
    simp only [Bool.false_eq_true, if_false]
    refine wpAny_bind (wpAny_mono one (fun r s' z => ?_) fun _ _ e => e)
    obtain ⟨v, rfl, hq⟩ := z
    exact wpAny_pure hq
  · refine wpAny_bind (wpAny_pure ?_)
    simp only [Bool.false_eq_true, if_false]
    refine wpAny_bind (wpAny_mono one (fun r s' z => ?_) fun _ _ e => e)
    obtain ⟨v, rfl, hq⟩ := z
    exact wpAny_pure hq
end
end PM
namespace PM
open PySem L2
/-! ### ==, != with an instance on the left -/
inductive TyR (H : Hp) : V → Value → Prop where
  | non : TyR H .non (.type "NoneType")
  | bl (x : Bool) : TyR H (.bl x) (.type "bool")
  | int (i : Int) : TyR H (.int i) (.type "int")
  | str (x : Str) : TyR H (.str x) (.type "str")
  | ins {b C dy : Addr} {ws : List (Option V)} (h : SlX.Slt H b C dy ws) : TyR H (.ref b) (.ref C)
theorem TyR.looks {X : Cx} {pins : List (Addr × Obj)} {σ : L2.St} {H : Hp} {s : Shared} {v : V} {t u : Value} (I : Inv X pins σ H s) (h : TyR H v t) (r : RelV v u) : PySem.W.Looks (model X.prog X.w) s.heap (typeOf u) t := by
  cases h with
  | non => cases r; exact PySem.W.Looks.of_pure rfl
  | bl x => cases r; exact PySem.W.Looks.of_pure rfl
  | int i => obtain ⟨t, rfl⟩ := r; exact PySem.W.Looks.of_pure rfl
  | str x => obtain ⟨t, rfl⟩ := r; exact PySem.W.Looks.of_pure rfl
  | ins h =>
    cases r
    obtain ⟨sl, od, _, J, _⟩ := SlX.slt_inst I h
    exact J.type
def rEqO (K : PySem.W.Frag) (C : Addr) (sp : Sp) : R2 := fun x y H Q => ∃ a dx vs t, x = .ref a ∧ SlX.Slt H a C dx vs ∧ TyR H y t ∧ PySem.W.notFirst K C t = true ∧ sp [x, y] H Q E0
def rNeO (K : PySem.W.Frag) (C : Addr) (sp : Sp) : R2 := fun x y H Q => ∃ a dx vs t, x = .ref a ∧ SlX.Slt H a C dx vs ∧ TyR H y t ∧ PySem.W.notFirst K C t = true ∧ sp [x, y] H (fun v H' => ∃ k, v = .bl k ∧ Q (.bl (!k)) H') E0
section
variable {X : Cx} {C g : Addr} {sp : Sp} {n : Nat}
theorem op_eqO (hs : PySem.W.findIn X.K (.ref C) "__eq__" = some (some (.ref g))) (hf : PySem.W.isFn X.K (.ref g) = true) (F : FnR X.prog X.w X.K X.mg X.base CX0 n g sp) (hr : Room n X.A) : OpR X (compareOp .Eq) (rEqO X.K C sp) := by
  intro pins s σ H x y v u Q I rx ry h
  obtain ⟨a, dx, vs, t, rfl, ha, ty, hn, q⟩ := h
  cases (show v = Value.ref a from rx)
  obtain ⟨sl, od, _, J, _⟩ := SlX.slt_inst I ha
  obtain ⟨m, hF⟩ := I.fr
  show wpAny _ _ (richCompare .Eq _ _) _ _ _
  refine PySem.W.cmp_K (op := .Eq) hr.units0 hF I.ok.mod.kin J (ty.looks I ry) hn hs hf ?_
  refine wpAny_mono (wpAny_call (run_fnR (us := [.ref a, u]) (vs := [.ref a, y]) F hr pass0 I (.cons rfl (.cons ry .nil)) q)) (fun w s' z => ?_) fun _ _ x => x
  obtain ⟨z', H', I', rz, qz⟩ := z
  exact SlX.cmpback rz ⟨z', H', I', rz, qz⟩
theorem op_neO (hne : PySem.W.findIn X.K (.ref C) "__ne__" = some (some (.builtin "object.__ne__"))) (hm : PySem.W.mroIn X.K C (.type "object") = some true) (hs : PySem.W.findIn X.K (.ref C) "__eq__" = some (some (.ref g))) (hf : PySem.W.isFn X.K (.ref g) = true)
    (F : FnR X.prog X.w X.K X.mg X.base CX0 n g sp) (hr : Room (n + 1) X.A) : OpR X (compareOp .NotEq) (rNeO X.K C sp) := by
  intro pins s σ H x y v u Q I rx ry h
  obtain ⟨a, dx, vs, t, rfl, ha, ty, hn, q⟩ := h
  cases (show v = Value.ref a from rx)
  obtain ⟨sl, od, _, J, _⟩ := SlX.slt_inst I ha
  obtain ⟨m, hF⟩ := I.fr
  show wpAny _ _ (richCompare .NotEq _ _) _ _ _
  refine ne_K (by have := hr.units; omega) hF I.ok.mod.kin J (ty.looks I ry) hn hne hm hs hf ?_
  refine wpAny_mono (wpAny_call (SlX.run_at (us := [.ref a, u]) (ws := [.ref a, y]) F hr.in1 I.env0.in1 pass0 I (.cons rfl (.cons ry .nil)) q)) (fun w s' z => ?_) fun _ _ x => x
  obtain ⟨z', H', I', rz, k, ez, qz⟩ := z
  subst ez
  cases rz
  exact ⟨k, rfl, .bl (!k), H', I', rfl, qz⟩
end
structure EqOk (w : Wd) (c : Nat) (g : Addr) : Prop where
  at_ : PySem.W.findIn w.K (.ref (w.cl c)) "__eq__" = some (some (.ref g))
  fn : PySem.W.isFn w.K (.ref g) = true
  ne : PySem.W.findIn w.K (.ref (w.cl c)) "__ne__" = some (some (.builtin "object.__ne__"))
  mr : PySem.W.mroIn w.K (w.cl c) (.type "object") = some true
  nf : ∀ t ∈ ["NoneType", "bool", "int", "str"], PySem.W.notFirst w.K (w.cl c) (.type t) = true
def flatR (c : Nat) : D → Bool
  | .non => true
  | .bl _ => true
  | .int _ => true
  | .str _ => true
  | .obj c' _ => c' == c
  | _ => false
def eqO (c : Nat) (f : Fn) (x y : D) : Option Vl := if isObj c x = true ∧ flatR c y = true then fnN f [x, y] else none
def notZ : Vl → Option Vl
  | (.bl k, false) => some (.bl (!k), false)
  | _ => none
theorem notZ_some {z' z : Vl} (h : notZ z' = some z) : ∃ b, z' = (.bl b, false) ∧ z = (.bl (!b), false) := by
  unfold notZ at h
  split at h
  · cases h; exact ⟨_, rfl, rfl⟩
  · cases h
def neO (c : Nat) (f : Fn) (x y : D) : Option Vl := (eqO c f x y).bind notZ
section
variable {w : Wd} {W : WX} {X : Cx} {pos : Pos} {e e' : Expr} {m m' : ME} {c n : Nat} {g : Addr} {fn : Fn}
theorem tyr_of {O : Av} {H : Hp} {d : D} {v : V} (hp : EqOk w c g) (h : Rep w O H d v) (e : flatR c d = true) : ∃ t, TyR H v t ∧ PySem.W.notFirst w.K (w.cl c) t = true := by
  cases d with
  | non => simp only [Rep] at h; subst h; exact ⟨_, .non, hp.nf _ (by simp)⟩
  | bl x => simp only [Rep] at h; subst h; exact ⟨_, .bl x, hp.nf _ (by simp)⟩
  | int x => simp only [Rep] at h; subst h; exact ⟨_, .int x, hp.nf _ (by simp)⟩
  | str x => simp only [Rep] at h; subst h; exact ⟨_, .str x, hp.nf _ (by simp)⟩
  | obj c' fs =>
    have z : c' = c := by simpa [flatR] using e
    subst z
    obtain ⟨a, dx, vs, rfl, hsl, _⟩ := slt_of h
    exact ⟨_, .ins hsl, by unfold PySem.W.notFirst; simp⟩
  | _ => simp [flatR] at e
theorem o2_eqO (hp : EqOk w c g) : Op2 w (rEqO w.K (w.cl c) (spOf w 2 fn)) (eqO c fn) := fun O H x y z vx vy Q dm e hx hy k => by
  unfold eqO at e
  split at e
  · rename_i ho
    obtain ⟨fs, rfl⟩ := isObj_some ho.1
    obtain ⟨a, dx, vs, ea, h1, _⟩ := slt_of hx
    obtain ⟨t, h2, h3⟩ := tyr_of hp hy ho.2
    refine ⟨a, dx, _, t, ea, h1, h2, h3, sp_of dm rfl e ?_ k⟩
    simp only [RepL]
    exact ⟨vx, [vy], rfl, hx, vy, [], rfl, hy, rfl⟩
  · cases e
theorem o2_neO (hp : EqOk w c g) : Op2 w (rNeO w.K (w.cl c) (spOf w 2 fn)) (neO c fn) := fun O H x y z vx vy Q dm e hx hy k => by
  unfold neO at e
  cases q : eqO c fn x y with
  | none => rw [q] at e; cases e
  | some z' =>
    rw [q] at e
    obtain ⟨b, rfl, rfl⟩ := notZ_some (show notZ z' = some z from e)
    unfold eqO at q
    split at q
    · rename_i ho
      obtain ⟨fs, rfl⟩ := isObj_some ho.1
      obtain ⟨a, dx, vs, ea, h1, _⟩ := slt_of hx
      obtain ⟨t, h2, h3⟩ := tyr_of hp hy ho.2
      refine ⟨a, dx, _, t, ea, h1, h2, h3, sp_of dm rfl q ?_ fun v H' gr gv => ?_⟩
      · simp only [RepL]
        exact ⟨vx, [vy], rfl, hx, vy, [], rfl, hy, rfl⟩
      · refine ⟨b, rep_bl (w := w) (O := O) (H := H') gv, ?_⟩
        exact (Go.later gr k).val (by simp only [Rep])
    · cases q
theorem pm_eqO (hK : w.K = X.K) (hp : EqOk w c g) (F : MthOk X.prog X.w X.K X.mg X.base w g 2 n fn) (hr : Room n X.A) (ha : PM X w W e m) (hb : PM X w W e' m') : PM X w W (.Compare e [.Eq] [e'] pos) (mOp2 (orD eqD (eqO c fn)) m m') :=
  pm_cmp ((op_eqD hr.units).or (op_eqO (hK ▸ hp.at_) (hK ▸ hp.fn) F hr)) (Op2.or (hK ▸ o2_eqD) (hK ▸ o2_eqO hp)) ha hb (nomark _)
theorem pmt_eqO (hK : w.K = X.K) (hp : EqOk w c g) (F : MthOk X.prog X.w X.K X.mg X.base w g 2 n fn) (hr : Room n X.A) (ha : PM X w W e m) (hb : PM X w W e' m') : PMT X w W (.Compare e [.Eq] [e'] pos) (mTest (mOp2 (orD eqD (eqO c fn)) m m')) :=
  pmt_cmp ((op_eqD hr.units).or (op_eqO (hK ▸ hp.at_) (hK ▸ hp.fn) F hr)) (Op2.or (hK ▸ o2_eqD) (hK ▸ o2_eqO hp)) ha hb (nomark _)
theorem pm_neO (hK : w.K = X.K) (hp : EqOk w c g) (F : MthOk X.prog X.w X.K X.mg X.base w g 2 n fn) (hr : Room (n + 1) X.A) (ha : PM X w W e m) (hb : PM X w W e' m') : PM X w W (.Compare e [.NotEq] [e'] pos) (mOp2 (orD neD (neO c fn)) m m') :=
  pm_cmp ((op_neD hr.units).or (op_neO (hK ▸ hp.ne) (hK ▸ hp.mr) (hK ▸ hp.at_) (hK ▸ hp.fn) F hr)) (Op2.or (hK ▸ o2_neD) (hK ▸ o2_neO hp)) ha hb (nomark _)
theorem pmt_neO (hK : w.K = X.K) (hp : EqOk w c g) (F : MthOk X.prog X.w X.K X.mg X.base w g 2 n fn) (hr : Room (n + 1) X.A) (ha : PM X w W e m) (hb : PM X w W e' m') : PMT X w W (.Compare e [.NotEq] [e'] pos) (mTest (mOp2 (orD neD (neO c fn)) m m')) :=
  pmt_cmp ((op_neD hr.units).or (op_neO (hK ▸ hp.ne) (hK ▸ hp.mr) (hK ▸ hp.at_) (hK ▸ hp.fn) F hr)) (Op2.or (hK ▸ o2_neD) (hK ▸ o2_neO hp)) ha hb (nomark _)
end
end PM

namespace PM
open PySem PySem.Spec PyProof.Rows L2

/-! ### an instance that is being made: its slots -/
def putD : Nat → D → List (Option D) → List (Option D)
  | 0, d, [] => [some d]
  | 0, d, _ :: xs => some d :: xs
  | i + 1, d, [] => none :: putD i d []
  | i + 1, d, x :: xs => x :: putD i d xs
theorem putS_cons {i : Nat} {v : V} {x : Option V} {vs : List (Option V)} : SlX.putS (i + 1) v (x :: vs) = x :: SlX.putS i v vs := by
  unfold SlX.putS
  simp only [List.length_cons, List.cons_append, List.set_cons_succ, Nat.add_sub_add_right]
theorem putS_nil {i : Nat} {v : V} : SlX.putS (i + 1) v [] = none :: SlX.putS i v [] := by
  unfold SlX.putS
  simp [List.replicate_succ]
theorem putS_zero {v : V} {x : Option V} {vs : List (Option V)} : SlX.putS 0 v (x :: vs) = some v :: vs := by
  unfold SlX.putS
  simp
theorem RepO.put {w : Wd} {O : Av} {H : Hp} {d : D} {v : V} (h : Rep w O H d v) : ∀ (i : Nat) (ds : List (Option D)) (vs : List (Option V)), RepO w O H ds vs → RepO w O H (putD i d ds) (SlX.putS i v vs)
  | 0, [], vs, e => by
    cases (show vs = [] from e)
    exact ⟨v, [], rfl, h, rfl⟩
  | 0, x :: ds, vs, e => by
    cases x with
    | none =>
      obtain ⟨vs', rfl, e⟩ := e
      rw [putS_zero]
      exact ⟨v, vs', rfl, h, e⟩
    | some y =>
      obtain ⟨u, vs', rfl, _, e⟩ := e
      rw [putS_zero]
      exact ⟨v, vs', rfl, h, e⟩
  | i + 1, [], vs, e => by
    cases (show vs = [] from e)
    rw [putS_nil]
    exact ⟨_, rfl, RepO.put h i [] [] rfl⟩
  | i + 1, x :: ds, vs, e => by
    cases x with
    | none =>
      obtain ⟨vs', rfl, e⟩ := e
      rw [putS_cons]
      exact ⟨_, rfl, RepO.put h i ds vs' e⟩
    | some y =>
      obtain ⟨u, vs', rfl, h1, e⟩ := e
      rw [putS_cons]
      exact ⟨u, _, rfl, h1, RepO.put h i ds vs' e⟩
def allS : List (Option D) → Option (List D)
  | [] => some []
  | none :: _ => none
  | some d :: ds => (allS ds).map fun xs => d :: xs
theorem RepO.all {w : Wd} {O : Av} {H : Hp} : ∀ (ds : List (Option D)) (xs : List D) (vs : List (Option V)), RepO w O H ds vs → allS ds = some xs → ∃ us : List V, vs = us.map some ∧ RepL w O H xs us
  | [], xs, vs, h, e => by
    cases e
    exact ⟨[], h, by simp only [RepL]⟩
  | none :: ds, xs, vs, h, e => by cases e
  | some d :: ds, xs, vs, ⟨v, vs', e1, h1, h2⟩, e => by
    have e : (allS ds).map (fun xs => d :: xs) = some xs := e
    cases q : allS ds with
    | none => rw [q] at e; cases e
    | some ys =>
      rw [q] at e
      cases e
      obtain ⟨us, e2, h3⟩ := RepO.all ds ys vs' h2 q
      exact ⟨v :: us, by rw [e1, e2]; rfl, by simp only [RepL]; exact ⟨v, us, rfl, h1, h3⟩⟩
def fldS (i : Nat) (ix : Nat) (d : D) (ρ : En) : Option En := match muOf i ρ with
  | some (s, .ins c fs) => some (ρ.set i (s.put (.ins c (putD ix d fs))))
  | _ => none
structure SetOk (w : Wd) (c : Nat) (f : Str) (ix : Nat) : Prop where
  sc : SlX.SCls w.K (w.cl c)
  sl : ∃ p, SlX.Slot1 w.K (w.cl c) f p ix
def clsAt (i c : Nat) (ρ : En) : Bool := match muOf i ρ with
  | some (_, .ins c' _) => c' == c
  | _ => false
section
variable {w : Wd} {W : WX} {X : Cx} {pos pos' p : Pos} {e : Expr} {m : ME} {x f : Str}
theorem slH_mut {O : Av} {ρ ρ1 : En} {σ : L2.St} {H : Hp} {F : Fr} {i ix c : Nat} {d : D} {v : V} (R : Rel F O ρ σ H) (hc : clsAt i c ρ = true) (h : Rep F.w O H d v) (e : fldS i ix d ρ = some ρ1) :
    ∃ a dx vs, σ[i]? = some (some (.ref a)) ∧ SlX.Slt H a (F.w.cl c) dx vs ∧ Rel F O ρ1 σ (SlX.slH H a (F.w.cl c) dx (SlX.putS ix v vs)) ∧ Step O H O (SlX.slH H a (F.w.cl c) dx (SlX.putS ix v vs)) := by
  unfold fldS at e
  unfold clsAt at hc
  cases q : muOf i ρ with
  | none => rw [q] at e; cases e
  | some sm =>
    obtain ⟨s, mu⟩ := sm
    rw [q] at e hc
    cases mu with
    | lst _ => cases e
    | dct _ _ => cases e
    | ins c' fs =>
      have hc : c' = c := by simpa using hc
      subst hc
      cases e
      obtain ⟨e1, g1⟩ := muOf_some q
      obtain ⟨a, ea, oa, dx, vs, h1, h2, h3, h4, h5⟩ := R.muAt e1 g1
      have hk : ∀ b o, b ≠ a → H b = some o → SlX.slH H a (F.w.cl c') dx (SlX.putS ix v vs) b = some o := fun b o n z => by
        by_cases hb : b = dx
        · subst hb
          rw [h4] at z
          cases z
          unfold SlX.slH
          rw [upd_ne h2, upd_same]
        · rw [SlX.slH_ne n hb]
          exact z
      have dm : ∀ b, H b ≠ none → SlX.slH H a (F.w.cl c') dx (SlX.putS ix v vs) b ≠ none := fun b z => by
        by_cases hb : b = a
        · subst hb
          unfold SlX.slH
          rw [upd_same]
          simp
        · cases z2 : H b with
          | none => exact absurd z2 z
          | some o => rw [hk b o hb z2]; simp
      have st : Step O H O (SlX.slH H a (F.w.cl c') dx (SlX.putS ix v vs)) := ⟨fun _ z => .inl z, fun b o n z => hk b o (fun z2 => n (by rw [z2]; exact oa)) z, dm⟩
      refine ⟨a, dx, vs, ea, .inr ⟨h1, h4⟩, ?_, st⟩
      refine R.mutG e1 g1 ea hk st (fun _ z => z) (fun b z => dm b (R.dom b z)) ⟨dx, SlX.putS ix v vs, ?_, h2, h3, hk _ _ h2 h4, RepO.put (Rep.step st d v h) ix fs vs (RepO.step st fs vs h5)⟩
      unfold SlX.slH
      rw [upd_same]
/-- self.f = e -/
def mSetF (i c ix : Nat) (m : ME) : MS := fun ρ => (m ρ).bind fun y ρ1 => if clsAt i c ρ1 = true then nxt (fldS i ix y.1 ρ1) else .stuck
theorem pms_fld {i c ix : Nat} (hK : w.K = X.K) (hp : SetOk w c f ix) (he : PM X w W e m) (hN : X.N[i]? = some x := by rfl) (hv : Vis X.env.scope x := by first | exact Or.inl rfl | exact Or.inr (Or.inl rfl) | exact Or.inr (Or.inr rfl)) (hd : (x == ("__debug__" : Str)) = false := by decide)
    (hcd : (x == ("__classdict__" : Str)) = false := by decide) (hs : swapsWith e (some (.Attribute (.Name x p) f pos')) pos.line X.env = pure false := by rfl) : PMS X w W (.Assign [.Attribute (.Name x p) f pos'] e pos) (mSetF i c ix m) := by
  obtain ⟨te, pe, se⟩ := he
  refine ⟨_, SlX.ps_sl (pe_var hN hv hd hcd) pe hs, fun F O ρ σ H E hw R hh => ?_⟩
  subst hw
  refine se.bindS rfl R hh fun y v ρ1 O1 H1 st1 R1 rv h1 => ?_
  obtain ⟨O2, s2, R2, r2, s3⟩ := VlAt.release st1 R1 R.doh rv
  split at h1
  · rename_i hc
    cases q : fldS i ix y.1 ρ1 with
    | none => rw [q] at h1; exact h1.elim
    | some ρ2 =>
      rw [q] at h1
      obtain ⟨a, dx, vs, ea, hsl, R3, s4⟩ := slH_mut R2 hc r2 q
      obtain ⟨hsc, pp, hs1⟩ := hp
      rw [hK] at hsc hs1
      exact ⟨.ref a, ea, a, _, dx, pp, vs, ix, rfl, hsl, hsc, hs1, h1 O2 σ _ (s3.trans s4) R3⟩
  · exact h1.elim

/-! ### self.f, self.g, .. = e -/
def gFld (K : PySem.W.Frag) (i : Nat) (f : Str) : TG := fun y σ H Q => ∃ a C dx p vs j, σ[i]? = some (some (.ref a)) ∧ SlX.Slt H a C dx vs ∧ SlX.SCls K C ∧ SlX.Slot1 K C f p j ∧ Q σ (SlX.slH H a C dx (SlX.putS j y vs))
theorem pg_fld {i : Nat} (hN : X.N[i]? = some x) (hv : Vis X.env.scope x) (hd : (x == ("__debug__" : Str)) = false) (hcd : (x == ("__classdict__" : Str)) = false) : PG X (.Attribute (.Name x p) f pos') (gFld X.K i f) := by
  refine ⟨fun pins s σ H v u Q I r h => ?_⟩
  obtain ⟨a, C, dx, pp, vs, j, ea, hsl, hsc, hs1, q⟩ := h
  refine PySem.W.kas_attr (thn ((pe_var (pos := p) hN hv hd hcd).run pins s σ H (fun z H1 => z = .ref a ∧ H1 = H) I ⟨.ref a, ea, rfl, rfl⟩) fun ov s1 hz => ?_)
  obtain ⟨z, H1, I1, rz, e1, e2⟩ := hz
  subst e1
  subst e2
  obtain rfl : ov = Value.ref a := rz
  exact SlX.setslot_ok I1 hsl hsc hs1 r fun s3 I3 => ⟨σ, _, I3, q⟩
def fldsS (i c : Nat) : List Nat → List D → En → Option En
  | [], [], ρ => some ρ
  | j :: js, d :: ds, ρ => if clsAt i c ρ = true then (fldS i j d ρ).bind fun ρ1 => fldsS i c js ds ρ1 else none
  | _, _, _ => none
def SimFs (w : Wd) (i c : Nat) (js : List Nat) (g : TGs) : Prop := ∀ (F : Fr) (O : Av) (ρ ρ1 : En) (σ : L2.St) (H : Hp) (vs : List V) (ds : List D) (Q : L2.St → Hp → Prop), F.w = w → Rel F O ρ σ H → RepL F.w O H ds vs → fldsS i c js ds ρ = some ρ1 → (∀ H1, Step O H O H1 → Rel F O ρ1 σ H1 → Q σ H1) → g vs σ H Q
def PMFs (X : Cx) (w : Wd) (i c : Nat) (es : List Expr) (js : List Nat) : Prop := ∃ g, PGs X es g ∧ SimFs w i c js g
theorem pmfs_nil {i c : Nat} : PMFs X w i c [] [] := ⟨_, pgs_nil, fun F O ρ ρ1 σ H vs ds Q hw R h e k => by
  cases ds with
  | nil =>
    simp only [RepL] at h
    cases e
    exact ⟨h, k H (Step.refl _ _) R⟩
  | cons d ds => cases e⟩
theorem pmfs_cons {i c j : Nat} {js : List Nat} {es : List Expr} (hK : w.K = X.K) (hp : SetOk w c f j) (h2 : PMFs X w i c es js) (hN : X.N[i]? = some x := by rfl) (hv : Vis X.env.scope x := by first | exact Or.inl rfl | exact Or.inr (Or.inl rfl) | exact Or.inr (Or.inr rfl)) (hd : (x == ("__debug__" : Str)) = false := by decide)
    (hcd : (x == ("__classdict__" : Str)) = false := by decide) (hs : (assignEach (.Attribute (.Name x p) f pos' :: es) X.env).map (·.2) = assign (.Attribute (.Name x p) f pos') X.env :: (assignEach es X.env).map (·.2) := by rfl) : PMFs X w i c (.Attribute (.Name x p) f pos' :: es) (j :: js) := by
  obtain ⟨g2, p2, s2⟩ := h2
  refine ⟨_, pgs_cons (pg_fld hN hv hd hcd) p2 hs, fun F O ρ ρ1 σ H vs ds Q hw R h ee k => ?_⟩
  subst hw
  cases ds with
  | nil => cases ee
  | cons d ds =>
    simp only [RepL] at h
    obtain ⟨v, vs', rfl, r1, r2⟩ := h
    have ee : (if clsAt i c ρ = true then (fldS i j d ρ).bind fun ρ1 => fldsS i c js ds ρ1 else none) = some ρ1 := ee
    split at ee
    · rename_i hc
      cases q : fldS i j d ρ with
      | none => rw [q] at ee; cases ee
      | some ρ2 =>
        rw [q] at ee
        obtain ⟨a, dx, us, ea, hsl, R3, s4⟩ := slH_mut R hc r1 q
        obtain ⟨hsc, pp, hs1⟩ := hp
        rw [hK] at hsc hs1
        exact ⟨v, vs', rfl, a, _, dx, pp, us, j, ea, hsl, hsc, hs1, s2 F O ρ2 ρ1 σ _ vs' ds Q rfl R3 (RepL.step s4 ds vs' r2) ee fun H1 s5 R5 => k H1 (s4.trans s5) R5⟩
    · cases ee
def fldsT (i c : Nat) (js : List Nat) (d : D) (ρ : En) : Option En := match d with
  | .tup ds => if ds.length = js.length then fldsS i c js ds ρ else none
  | _ => none
def mSetFs (i c : Nat) (js : List Nat) (m : ME) : MS := fun ρ => (m ρ).bind fun y ρ1 => nxt (fldsT i c js y.1 ρ1)
theorem pms_flds {i c : Nat} {js : List Nat} {es : List Expr} {k : Nat} {pt : Pos} (hK : w.K = X.K) (hc : X.calm = true) (he : PM X w W e m) (h : PMFs X w i c es js) (hn : (assignEach es X.env).length = js.length := by rfl) (hst : (assignEach es X.env).findIdx? (·.1) = none := by rfl)
    (hs : swapsWithSole [.Tuple es k pt] e pos.line X.env = pure false := by rfl) (hsw : swappedStores [.Tuple es k pt] e X.env = pure none := by rfl) (h1 : (assignEach [.Tuple es k pt] X.env).map (·.2) = [assign (.Tuple es k pt) X.env] := by rfl) : PMS X w W (.Assign [.Tuple es k pt] e pos) (mSetFs i c js m) := by
  obtain ⟨te, pe, se⟩ := he
  obtain ⟨g, pg, sg⟩ := h
  refine ⟨_, ps_asg pe (pg_tup hc pg hn hst) hs hsw h1, fun F O ρ σ H E hw R hh => ?_⟩
  subst hw
  refine se.bindS rfl R hh fun y v ρ1 O1 H1 st1 R1 rv h1 => ?_
  obtain ⟨O2, s2, R2, r2, s3⟩ := VlAt.release st1 R1 R.doh rv
  cases q : fldsT i c js y.1 ρ1 with
  | none => rw [q] at h1; exact h1.elim
  | some ρ2 =>
    rw [q] at h1
    unfold fldsT at q
    split at q
    · rename_i ds ey
      split at q
      · rename_i hl
        rw [ey] at r2
        simp only [Rep] at r2
        obtain ⟨a, vs, rfl, h3, h4⟩ := r2
        refine ⟨a, vs, rfl, ?_, by rw [h4.length]; exact hl, sg F O2 ρ1 ρ2 σ H1 vs ds _ rfl R2 h4 q fun H2 s5 R5 => h1 O2 σ H2 (s3.trans s5) R5⟩
        rw [← hK]
        exact sq_of_rep h3
      · cases q
    · cases q
end

/-! ### the body of __init__: the new instance -/
def tRe (C : Addr) (t : TS) : TS := fun Z σ H => ∃ x dx, σ[(0 : Nat)]? = some (some (.ref x)) ∧ SlX.Slt H x C dx [] ∧ t Z σ (SlX.slH H x C dx [])
theorem pss_re {X : Cx} {body : List Stmt} {t : TS} {C : Addr} (h : PSs X body t) : PSs X body (tRe C t) := by
  refine ⟨fun pins s σ H Z I hh => ?_⟩
  obtain ⟨x, dx, _, hsl, q⟩ := hh
  obtain ⟨ne, sl, mA, e0, r0, n, qn⟩ := SlX.slt_at I hsl
  have I2 : Inv X pins σ (SlX.slH H x C dx []) s := SlX.inv_slot (h' := s.heap) (t' := s.toks) I hsl (fun _ _ _ _ z => z) (fun _ z => z) e0 r0
  exact h.run pins s σ _ Z I2 q
/-- what __init__ is worth: called with a new instance -/
def spIn (w : Wd) (c k : Nat) (f : Fn) : Sp := fun vs H Q E => ∃ x dx vs', vs = .ref x :: vs' ∧ SlX.Slt H x (w.cl c) dx [] ∧ spOf w k f vs (SlX.slH H x (w.cl c) dx []) Q E
section
variable {P : Program} {wo : World} {K : PySem.W.Frag} {mg : Str → Option Value} {base : Heap} {w : Wd}
theorem init_ok0 {c : Nat} {x qual : Str} {st : Stmt} {f : Addr} {fd : FuncData} {N ps : List Str} {k : Nat} {m : MS} (F : Fun K x qual st f fd) (S : FnScope N ps (defScope st)) (hl : ps.length ≤ N.length)
    (hb : ∀ (cdv : Value) (A : Around) (outer : List Env) (s : Shared) (H : Hp) (E : XK), Room k (A.deeper (envOfC qual (defScope st) s.heap.objs.size f cdv)) →
      PMSs (cxOf CX0 P wo K mg base N qual (defScope st) f cdv A outer s H E).nox w W0 (defBody st) m) : FnOk P wo K mg base CX0 (k + 1) f fd ps (spIn w c ps.length (noX (fnSem N.length ps.length m))) := by
  have len : ∀ vs H Q E, spIn w c ps.length (noX (fnSem N.length ps.length m)) vs H Q E → vs.length = ps.length := fun vs H Q E h => by
    obtain ⟨x, dx, vs', _, _, O, om, ds, _, hl, _⟩ := h
    exact hl
  refine F.ok S len fun cdv A outer s H vs Q E hr h => ?_
  obtain ⟨t, p, sm⟩ := hb cdv A outer s H E hr
  obtain ⟨x, dx, vs', rfl, hsl, h⟩ := h
  refine ⟨_, pss_re (C := w.cl c) p, x, dx, ?_, hsl, body_ok (E := fun _ _ _ => False) sm (fun _ _ _ _ z => z) hl (noX_hold h)⟩
  exact start_get (by rfl)
end

/-! ### C(..) -/
def mkF (c : Nat) (f : Fn) (xs : List D) : Option Vl := match f (some (.ins c [])) xs with
  | .ret (.non, false) (some (.ins c' fs)) => if c' = c then (allS fs).map fun ds => (.obj c ds, false) else none
  | _ => none
/-- the class c, its __init__ -/
structure MkOk (P : Program) (wo : World) (K : PySem.W.Frag) (mg : Str → Option Value) (base : Heap) (w : Wd) (c n j : Nat) (f : Fn) : Prop where
  ex : ∃ g fd ps, ps.length = n + 1 ∧ Mk K (w.cl c) g ∧ FnOk P wo K mg base CX0 j g fd ps (spIn w c (n + 1) f) ∧ Binds K fd ps []
section
variable {w : Wd} {W : WX} {X : Cx} {pos p : Pos} {e : Expr} {es : List Expr} {mr : MA} {x : Str} {c n k : Nat} {fn : Fn}
theorem make_core {O : Av} {H : Hp} {xs : List D} {vs : List V} {z : Vl} {Q : VK} (dm : Dm O H) (hl : xs.length = n) (e : mkF c fn xs = some z) (rs : RepL w O H xs vs) (g : Go w O H z Q) :
    ∀ x dx, H x = none → H dx = none → dx ≠ x → spIn w c (n + 1) fn (V.ref x :: vs) (upd (upd H dx (.own x)) x (.ins (w.cl c) dx [])) (fun v H2 => v = .non ∧ Q (.ref x) H2) E0 := by
  intro x dx hx hdx ne
  refine ⟨x, dx, vs, rfl, .inl ⟨upd_same, rfl⟩, ?_⟩
  generalize hH : SlX.slH (upd (upd H dx (.own x)) x (.ins (w.cl c) dx [])) x (w.cl c) dx [] = H3
  have e1 : H3 x = some (SlX.SlO x (w.cl c) dx []) := by rw [← hH]; unfold SlX.slH; rw [upd_same]
  have e2 : H3 dx = some (.xd []) := by rw [← hH]; unfold SlX.slH; rw [upd_ne ne, upd_same]
  have gr : Grow H H3 := fun a o q => by
    have n1 : a ≠ x := fun z => by rw [z, hx] at q; cases q
    have n2 : a ≠ dx := fun z => by rw [z, hdx] at q; cases q
    rw [← hH, SlX.slH_ne n1 n2, upd_ne n1, upd_ne n2]
    exact q
  have nox : ¬ O x := fun q => dm x q hx
  have nodx : ¬ ins O x dx := fun q => q.elim (fun q => dm dx q hdx) ne
  refine ⟨ins O x, some (.ins c []), xs, fun a q => ?_, by rw [List.length_cons, rs.length, hl], ⟨x, vs, rfl, .inr rfl, ⟨dx, [], e1, ne, nodx, e2, rfl⟩, RepL.step (ins_step gr hx) xs vs rs⟩, ?_⟩
  · rcases q with q | q
    · exact gr.dom (dm a q)
    · rw [q, e1]; simp
  · unfold mkF at e
    split at e
    · rename_i c' fs hf
      rw [hf]
      split at e
      · rename_i hc
        subst hc
        refine ⟨rfl, fun H' v sy rf => ?_⟩
        obtain ⟨r1, a, ha, r2⟩ := rf
        simp only [Rep] at r1
        cases (show some (V.ref x) = some (.ref a) from ha)
        refine ⟨r1, ?_⟩
        obtain ⟨dx', us, h1, h2, h3, h4, h5⟩ := r2
        cases q : allS fs with
        | none => rw [q] at e; cases e
        | some ds =>
          rw [q] at e
          cases e
          obtain ⟨ws, rfl, h6⟩ := RepO.all fs ds us h5 q
          refine g (.ref x) H' (fun a o q => sy.kept a o (fun z => ?_) (gr a o q)) ?_
          · have z2 := z.2
            simp at z2
            rw [← z2, hx] at q
            cases q
          · show Rep w O H' (.obj c' ds) (.ref x)
            simp only [Rep]
            exact ⟨x, dx', ws, rfl, h2, nox, fun q => h3 (.inl q), h1, h4, RepL.step (mono_step fun a q => .inl q) ds ws h6⟩
      · cases e
    · cases e
def mMake (c : Nat) (f : Fn) (mr : MA) : ME := mCall (mkF c f) mr
theorem sim_make {t : TA} (hr : SimA w W t mr) (hn : ∀ (ρ ρ1 : En) (xs : List D), mr ρ = .ok xs ρ1 → xs.length = n) : Sim w W (tMake (w.cl c) (spIn w c (n + 1) fn) [] E0 t) (mMake c fn mr) := fun F O ρ σ H Q hw R hh => by
  subst hw
  have key : Hold F W O σ H (RV F σ H) Q ((mr ρ).bind fun xs ρ1 => if xs.length = n then lift (mkF c fn xs) ρ1 else .stuck) := by
    unfold mMake mCall at hh
    cases q : mr ρ with
    | ok xs ρ1 =>
      rw [q] at hh
      show Hold F W O σ H (RV F σ H) Q (if xs.length = n then _ else _)
      rw [if_pos (hn ρ ρ1 xs q)]
      exact hh
    | exc x ρ1 => rw [q] at hh; exact hh
    | stuck => rw [q] at hh; exact hh
  refine hr.bind rfl R key fun xs vs ρ1 O1 H1 st1 R1 rs h1 => ?_
  split at h1
  · rename_i hl
    cases q : mkF c fn xs with
    | none => rw [q] at h1; exact h1.elim
    | some z =>
      rw [q] at h1
      intro x dx hx hdx ne
      rw [List.append_nil]
      exact make_core R1.dom hl q rs (h1.go st1 R1) x dx hx hdx ne
  · exact h1.elim
theorem pm_make (M : MkOk X.prog X.w X.K X.mg X.base w c n k fn) (hr : Room (k + 1) X.A) (hg : Gl X x) (hm : X.mg x = some (.ref (w.cl c))) (ha : PMA X w W (e :: es) mr) (hn : Len mr n) (hdb : (x == ("__debug__" : Str)) = false := by decide)
    (he : starEach (e :: es) X.env = (false, eval e X.env) :: starEach es X.env := by rfl) (hpl : (backTo pos (starEach es X.env)).any (·.1) = false := by rfl) : PM X w W (.Call (.Name x p) (e :: es) [] pos) (mMake c fn mr) := by
  obtain ⟨g, fd, ps, hl, M, F, hb⟩ := M.ex
  obtain ⟨ta, pa, sa⟩ := ha
  exact ⟨_, pe_make M F hr hg hm hb .nil pass0 pa hdb he hpl, sim_make sa fun ρ ρ1 xs q => hn ρ ρ1 xs q⟩
/-- cls(..), cls a name that holds the class -/
def mMakeL (i c : Nat) (f : Fn) (mr : MA) : ME := fun ρ => match ρ[i]? with
  | some (.val (.cls c')) => if c' = c then mMake c f mr ρ else .stuck
  | _ => .stuck
def tMakeL (i : Nat) (C : Addr) (t : TE) : TE := fun σ H Q => σ[i]? = some (some (.ref C)) ∧ t σ H Q
theorem pe_makeL {i : Nat} {C f : Addr} {fd : FuncData} {ps : List Str} {sp : Sp} {E : XK} {t : TA} (M : Mk X.K C f) (F : FnOk X.prog X.w X.K X.mg X.base CX0 k f fd ps sp) (hr : Room (k + 1) X.A) (hN : X.N[i]? = some x) (hv : Vis X.env.scope x) (hb : Binds X.K fd ps []) (hx : Passes CX0 X E) (ha : PA X (e :: es) t)
    (hdb : (x == ("__debug__" : Str)) = false) (hcd : (x == ("__classdict__" : Str)) = false) (he : starEach (e :: es) X.env = (false, eval e X.env) :: starEach es X.env) (hpl : (backTo pos (starEach es X.env)).any (·.1) = false) :
    PE X (.Call (.Name x p) (e :: es) [] pos) (tMakeL i C (tMake C sp [] E t)) := by
  refine ⟨fun pins s σ H Q I hw => ?_⟩
  obtain ⟨hs, ht⟩ := hw
  refine wpAny_Call_Name_kw (thn ((pe_var (pos := p) hN hv hdb hcd).run pins s σ H (fun v H1 => v = .ref C ∧ H1 = H) I ⟨.ref C, hs, rfl, rfl⟩) fun u s1 hz => ?_)
  obtain ⟨v, H1, I1, r1, e1, e2⟩ := hz
  subst e1
  subst e2
  obtain rfl : u = Value.ref C := r1
  refine PySem.W.callWith_K (h₀ := X.base) I.ok.mod.kin M.kp (thn (ha.run pos pins s1 σ _ _ I1 ht) fun us s2 hz => ?_) he hpl
  obtain ⟨vs, H2, I2, r, q⟩ := hz
  exact ⟨I2.kIn, run_make M F hr hb .nil hx I2 r q⟩
theorem pm_makeL {i : Nat} (M : MkOk X.prog X.w X.K X.mg X.base w c n k fn) (hr : Room (k + 1) X.A) (ha : PMA X w W (e :: es) mr) (hn : Len mr n) (hN : X.N[i]? = some x := by rfl) (hv : Vis X.env.scope x := by first | exact Or.inl rfl | exact Or.inr (Or.inl rfl) | exact Or.inr (Or.inr rfl)) (hdb : (x == ("__debug__" : Str)) = false := by decide)
    (hcd : (x == ("__classdict__" : Str)) = false := by decide) (he : starEach (e :: es) X.env = (false, eval e X.env) :: starEach es X.env := by rfl) (hpl : (backTo pos (starEach es X.env)).any (·.1) = false := by rfl) : PM X w W (.Call (.Name x p) (e :: es) [] pos) (mMakeL i c fn mr) := by
  obtain ⟨g, fd, ps, hl, M, FO, hb⟩ := M.ex
  obtain ⟨ta, pa, sa⟩ := ha
  refine ⟨_, pe_makeL M FO hr hN hv hb pass0 pa hdb hcd he hpl, fun F O ρ σ H Q hw R hh => ?_⟩
  subst hw
  unfold mMakeL at hh
  split at hh
  · rename_i c' q
    split at hh
    · rename_i hc
      subst hc
      obtain ⟨v, e1, e2⟩ := R.slot i _ q
      simp only [Rep] at e2
      subst e2
      exact ⟨e1, sim_make sa (fun ρ ρ1 xs q => hn ρ ρ1 xs q) F O ρ σ H Q rfl R hh⟩
    · exact hh.elim
  · exact hh.elim

/-! ### C.m(..), m a classmethod -/
structure CmOk (w : Wd) (c : Nat) (f : Str) (g : Addr) : Prop where
  ex : ∃ mc p, ClX.CRead w.K (w.cl c) mc ∧ ClX.CMet w.K (w.cl c) mc f p g
def mCm (c : Nat) (f : Fn) (mr : MA) : ME := mCall (fun xs => fnN f (.cls c :: xs)) mr
theorem pe_cmeth0 {C q g : Addr} {mc : Value} {sp : Sp} {E : XK} {o : Expr} {m : Str} {apos : Pos} {ta : TE} {pl : Sem Bool} (he : PE X o ta) (r : ClX.CRead X.K C mc) (cm : ClX.CMet X.K C mc m q g) (F : FnR X.prog X.w X.K X.mg X.base CX0 k g sp) (hr : Room k X.A) (hx : Passes CX0 X E)
    (ht : eval (.Call (.Attribute o m apos) [] [] pos) X.env = (do
      let ov ← eval o X.env
      standAt apos.atName
      let (f, first) ← holding [ov] (getMethod ov m pl)
      callWith pos f first (backTo pos (starEach [] X.env)) (backToKw pos (keywordEach [] X.env))) := by rfl) :
    PE X (.Call (.Attribute o m apos) [] [] pos) (ClX.tCMeth C sp E ta tNil) := by
  refine ⟨fun pins s σ H Q I hw => ?_⟩
  refine PySem.W.methodCall_KW (pl := pl) (thn (he.run pins s σ H _ I hw) fun u s1 hz => ?_) ht
  obtain ⟨y, H1, I1, rx, ex, q2⟩ := hz
  subst ex
  obtain rfl : u = Value.ref C := rx
  refine ClX.getmethcm_ok I1 r cm fun s2 I2 => ?_
  exact PySem.W.callWith_M0 ⟨ClX.pin_at I2, I2.kIn⟩ cm.fi (ClX.run_cm F hr hx I2 .nil q2)
theorem sim_cm {t : TA} (hr : SimA w W t mr) (hn : ∀ (ρ ρ1 : En) (xs : List D), mr ρ = .ok xs ρ1 → xs.length = n) : Sim w W (ClX.tCMeth (w.cl c) (spOf w (n + 1) fn) E0 (tC (.ref (w.cl c))) t) (mCm c fn mr) := fun F O ρ σ H Q hw R hh => by
  subst hw
  refine ⟨rfl, ?_⟩
  have key : Hold F W O σ H (RV F σ H) Q ((mr ρ).bind fun xs ρ1 => if xs.length = n then lift (fnN fn (.cls c :: xs)) ρ1 else .stuck) := by
    unfold mCm mCall at hh
    cases q : mr ρ with
    | ok xs ρ1 =>
      rw [q] at hh
      show Hold F W O σ H (RV F σ H) Q (if xs.length = n then _ else _)
      rw [if_pos (hn ρ ρ1 xs q)]
      exact hh
    | exc x ρ1 => rw [q] at hh; exact hh
    | stuck => rw [q] at hh; exact hh
  refine hr.bind rfl R key fun xs vs ρ1 O1 H1 st1 R1 rs h1 => ?_
  split at h1
  · rename_i hl
    cases q : fnN fn (.cls c :: xs) with
    | none => rw [q] at h1; exact h1.elim
    | some z =>
      rw [q] at h1
      exact sp_of R1.dom (by simp [hl]) q (by simp only [RepL, Rep]; exact ⟨_, vs, rfl, rfl, rs⟩) (h1.go st1 R1)
  · exact h1.elim
theorem pm_cm0 {g : Addr} {o m : Str} {apos po : Pos} {pl : Sem Bool} (hK : w.K = X.K) (hp : CmOk w c m g) (F : MthOk X.prog X.w X.K X.mg X.base w g 1 k fn) (hr : Room k X.A) (hg : Gl X o) (hm : X.mg o = some (.ref (w.cl c))) (hd : (o == ("__debug__" : Str)) = false := by decide)
    (ht : eval (.Call (.Attribute (.Name o po) m apos) [] [] pos) X.env = (do
      let ov ← eval (.Name o po) X.env
      standAt apos.atName
      let (f, first) ← holding [ov] (getMethod ov m pl)
      callWith pos f first (backTo pos (starEach [] X.env)) (backToKw pos (keywordEach [] X.env))) := by rfl) : PM X w W (.Call (.Attribute (.Name o po) m apos) [] [] pos) (mCm c fn mNil) := by
  obtain ⟨mc, p, r, cm⟩ := hp.ex
  rw [hK] at r cm
  exact ⟨_, pe_cmeth0 (pl := pl) (pe_glob (v := .ref (w.cl c)) hg hm rfl hd) r cm F hr pass0 ht, sim_cm sima_nil fun ρ ρ1 xs q => by cases q; rfl⟩
theorem pm_cm {g : Addr} {o m : Str} {apos po : Pos} {pl : Sem Bool} (hK : w.K = X.K) (hp : CmOk w c m g) (F : MthOk X.prog X.w X.K X.mg X.base w g (n + 1) k fn) (hr : Room k X.A) (hg : Gl X o) (hm : X.mg o = some (.ref (w.cl c))) (ha : PMA X w W (e :: es) mr) (hn : Len mr n) (hd : (o == ("__debug__" : Str)) = false := by decide)
    (hst : starEach (e :: es) X.env = (false, eval e X.env) :: starEach es X.env := by rfl) (hpl : (backTo pos (starEach es X.env)).any (·.1) = false := by rfl)
    (ht : eval (.Call (.Attribute (.Name o po) m apos) (e :: es) [] pos) X.env = (do
      let ov ← eval (.Name o po) X.env
      standAt apos.atName
      let (f, first) ← holding [ov] (getMethod ov m pl)
      callWith pos f first (backTo pos (starEach (e :: es) X.env)) (backToKw pos (keywordEach [] X.env))) := by rfl) : PM X w W (.Call (.Attribute (.Name o po) m apos) (e :: es) [] pos) (mCm c fn mr) := by
  obtain ⟨mc, p, r, cm⟩ := hp.ex
  rw [hK] at r cm
  obtain ⟨ta, pa, sa⟩ := ha
  exact ⟨_, ClX.pe_cmeth (pl := pl) (pe_glob (v := .ref (w.cl c)) hg hm rfl hd) r cm F hr pass0 pa hst hpl ht, sim_cm sa fun ρ ρ1 xs q => hn ρ ρ1 xs q⟩
end
end PM

namespace PM
open PySem PySem.Spec PyProof.Rows L2

/-! ### x == (), x != () -/
def rEq0 (K : PySem.W.Frag) : R2 := fun x y H Q => ∃ a b xs, x = .ref a ∧ y = .ref b ∧ SqT K H a xs ∧ SqT K H b [] ∧ Q (.bl xs.isEmpty) H
def eq0 : D → D → Option Vl
  | .tup xs, .tup [] => some (dB xs.isEmpty)
  | _, _ => none
section
variable {w : Wd} {W : WX} {X : Cx} {pos p : Pos} {a b e : Expr} {ma mb m : ME} {mr : MA}
theorem op_eq0 (hu : X.A.units < cLine) : OpR X (compareOp .Eq) (rEq0 X.K) := by
  intro pins s σ H x y v u Q I rx ry h
  obtain ⟨l, b, xs, rfl, rfl, h1, h2, q⟩ := h
  cases (show v = Value.ref l from rx)
  cases (show u = Value.ref b from ry)
  obtain ⟨its, rv, t1, z1⟩ := I.tuple h1
  obtain ⟨its2, rv2, t2, z2⟩ := I.tuple h2
  cases rv2
  refine SeqAt.RcAt.tuples (e := fun _ => true) (show s.heap.IsTuple l its.toArray from t1) (show s.heap.IsTuple b #[] from t2) hu (fun j j1 j2 => absurd j2 (by simp)) X.prog X.w _ _ ?_
  refine ⟨.bl xs.isEmpty, H, I, ?_, q⟩
  have hl := rv.length
  show Value.bool _ = Value.bool _
  congr 1
  cases xs with
  | nil => cases rv; rfl
  | cons x xs => cases rv; rfl
theorem o2_eq0 : Op2 w (rEq0 w.K) eq0 := fun O H x y z vx vy Q dm e hx hy k => by
  unfold eq0 at e
  split at e
  · rename_i xs
    cases e
    simp only [Rep] at hx hy
    obtain ⟨a, vs, rfl, h1, h2⟩ := hx
    obtain ⟨b, us, rfl, h3, h4⟩ := hy
    simp only [RepL] at h4
    subst h4
    refine ⟨a, b, vs, rfl, rfl, sq_of_rep h1, sq_of_rep h3, ?_⟩
    have e : vs.isEmpty = xs.isEmpty := by
      have := h2.length
      cases vs <;> cases xs <;> simp_all
    rw [e]
    exact k.bl
  · cases e
theorem pmt_eq0 {k : Nat} (hK : w.K = X.K) (hr : Room k X.A) (ha : PM X w W a ma) (hb : PM X w W b mb) : PMT X w W (.Compare a [.Eq] [b] pos) (mTest (mOp2 eq0 ma mb)) := pmt_cmp (op_eq0 hr.units0) (hK ▸ o2_eq0) ha hb (nomark _)
theorem pm_eq0 {k : Nat} (hK : w.K = X.K) (hr : Room k X.A) (ha : PM X w W a ma) (hb : PM X w W b mb) : PM X w W (.Compare a [.Eq] [b] pos) (mOp2 eq0 ma mb) := pm_cmp (op_eq0 hr.units0) (hK ▸ o2_eq0) ha hb (nomark _)

/-! ### a, b = x, y -/
def mPar (i j : Nat) (mr : MA) : MS := fun ρ => (mr ρ).bind fun xs ρ1 => match xs with
  | [x, y] => nxt ((setV i x ρ1).bind fun ρ2 => setV j y ρ2)
  | _ => .stuck
theorem pms_par {i j : Nat} {x y : Str} {px py pt : Pos} {kt k2 pt2} (hc : X.calm = true) (hN : X.N.Nodup) (hi : X.N[i]? = some x) (hj : X.N[j]? = some y) (hij : i ≠ j) (hx : X.env.scope.names.lookup x = some .local) (hy : X.env.scope.names.lookup y = some .local) (ha : PMA X w W [a, b] mr)
    (hw : swappedStores [.Tuple [.Name x px, .Name y py] kt pt] (.Tuple [a, b] k2 pt2) X.env = pure (some [x, y])) (hs : swapsWithSole [.Tuple [.Name x px, .Name y py] kt pt] (.Tuple [a, b] k2 pt2) pos.line X.env = pure false := by rfl) :
    PMS X w W (.Assign [.Tuple [.Name x px, .Name y py] kt pt] (.Tuple [a, b] k2 pt2) pos) (mPar i j mr) := by
  obtain ⟨t, pa, sa⟩ := ha
  refine ⟨_, ps_par hc hN hi hj hij hx hy pa hw hs, fun F O ρ σ H E hw R hh => ?_⟩
  subst hw
  refine sa.bindS rfl R hh fun xs vs ρ1 O1 H1 st1 R1 rs h1 => ?_
  split at h1
  · rename_i d1 d2
    simp only [RepL] at rs
    obtain ⟨v, _, rfl, r1, u, _, rfl, r2, rfl⟩ := rs
    cases q1 : setV i d1 ρ1 with
    | none => rw [q1] at h1; exact h1.elim
    | some ρ2 =>
      rw [q1] at h1
      have h1 : HoldS F W O1 H1 E (nxt (setV j d2 ρ2)) := h1
      cases q2 : setV j d2 ρ2 with
      | none => rw [q2] at h1; exact h1.elim
      | some ρ3 =>
        rw [q2] at h1
        exact ⟨v, u, rfl, h1 O1 _ H1 (Step.refl _ _) (setV_rel (setV_rel R1 r1 q1) r2 q2)⟩
  · exact h1.elim

/-! ### t[::-1] -/
theorem rev_places (n : Nat) : Builtin.Slice.slicePlaces ((n : Int) - 1) (-1) (-1) = n := by
  unfold Builtin.Slice.slicePlaces
  have h1 : ¬ ((-1 : Int) > 0) := by omega
  have h2 : (-(-1) : Int) = 1 := by omega
  simp only [h1, if_false, h2, Int.ediv_one]
  split <;> omega
theorem rev_take (xs : List Value) : ∀ k : Nat, k ≤ xs.length → (List.range k).filterMap (fun (m : Nat) => xs[((xs.length : Int) - 1 + (m : Int) * (-1)).toNat]?) = xs.reverse.take k
  | 0, _ => by simp
  | k + 1, h => by
    have q : ((xs.length : Int) - 1 + (k : Int) * (-1)).toNat = xs.length - 1 - k := by omega
    have h2 : xs.length - 1 - k < xs.length := by omega
    rw [List.range_succ, List.filterMap_append, rev_take xs k (by omega), List.take_add_one, List.getElem?_reverse (by omega)]
    simp only [List.filterMap_cons, List.filterMap_nil, q]
    rw [List.getElem?_eq_getElem h2]
    rfl
theorem rev_pick (xs : List Value) : ((List.range xs.toArray.size).filterMap fun (m : Nat) => xs.toArray[((xs.toArray.size : Int) - 1 + (m : Int) * (-1)).toNat]?).toArray = xs.reverse.toArray := by
  have := rev_take xs xs.length (Nat.le_refl _)
  rw [List.take_of_length_le (by simp)] at this
  simp only [List.size_toArray, List.getElem?_toArray]
  rw [this]
section
variable {prog : Program} {wo : World} {A : Around} {E : Value → Shared → Prop} {s : Shared}
theorem applied_rev {sl : Addr} {n : Nat} {vs : Value} {Q : Int × Int × Nat → Shared → Prop} (hs : s.heap.IsSliceOf sl .none .none vs) (ps : IsPart vs (some (-1))) (h : Q ((n : Int) - 1, -1, n) s) : wpAny (model prog wo) A (Builtin.Slice.sliceApplied (.ref sl) (pure (n : Int))) Q E s := by
  obtain ⟨os, hos, hcs, hds⟩ := id hs
  unfold Builtin.Slice.sliceApplied Builtin.Slice.sliceFields
  refine wpAny_bind (wpAny_bind (wpAny_field hos hds (x := .none) rfl (wpAny_bind (wpAny_field hos hds (x := .none) rfl (wpAny_bind (wpAny_field hos hds (x := vs) rfl (wpAny_pure ?_)))))))
  refine wpAny_bind (HT.slicePart_ ps ?_)
  show wpAny _ _ (if ((-1 : Int) == 0) = true then _ else _) _ _ s
  rw [if_neg (by decide)]
  refine wpAny_bind (slicePart_none (wpAny_bind (slicePart_none (wpAny_bind (wpAny_pure ?_)))))
  show wpAny _ _ (pure ((n : Int) - 1, (-1 : Int), Builtin.Slice.slicePlaces ((n : Int) - 1) (-1) (-1))) _ _ s
  rw [rev_places]
  exact wpAny_pure h
theorem getItem_rev {t sl : Addr} {items : List Value} {vs : Value} {Q : Value → Shared → Prop} (ht : IsTup s.heap t items.toArray) (hs : s.heap.IsSliceOf sl .none .none vs) (ps : IsPart vs (some (-1)))
    (h : Q (.ref s.heap.objs.size) { s with heap := s.heap.push { cls := .type "tuple", data := .seq items.reverse.toArray } }) (hsz : items.length ≤ sizeLine) : wpAny (model prog wo) A (getItem (.ref t) (.ref sl)) Q E s := by
  have fits : sizeOk (.seq items.reverse.toArray) := by
    show items.reverse.toArray.size ≤ sizeLine
    rw [List.size_toArray, List.length_reverse]
    exact hsz
  obtain ⟨os, hos, hcs, hds⟩ := id hs
  have hTs : s.TypeIs (.ref sl) "slice" := ⟨os, hos, hcs⟩
  unfold getItem
  try with_reducible refine wpAny_holding ?_
  first | refine wpAny_bind (wpAny_pure ?_) | skip
  refine wpAny_bind (wpAny_sequenceKey ht.typeIs (by decide) ?_)
  refine wpAny_bind (wpAny_callSpecial?_slot (name := Str.ofString "__getitem__") ht.typeIs PyProof.Rows.slot_tuple_getitem
    (wpAny_call_entry PyProof.Rows.slot_tuple_getitem ht.typeIs entry_tuple_getitem ?_ (args_tuple_getitem _ _)))
  show wpAny _ _ (Builtin.Tuple.tupleItemsOf (.ref t) >>= _) _ _ s
  refine wpAny_bind (tupleItemsOf_ ht ?_)
  refine wpAny_bind (wpAny_typeOf hTs ?_)
  rw [if_pos (by decide)]
  refine wpAny_bind (applied_rev hs ps ?_)
  have no : ¬ (((items.toArray.size : Int) - 1 == 0 && (-1 : Int) == 1 && items.toArray.size == items.toArray.size) = true) := by simp
  show wpAny _ _ (if ((items.toArray.size : Int) - 1 == 0 && (-1 : Int) == 1 && items.toArray.size == items.toArray.size) = true then _ else _) _ _ s
  rw [if_neg no, rev_pick]
  first
    | exact wpAny_bind (m := Builtin.Tuple.tupleExact _) (wpAny_newObj_type (wpAny_pure ⟨_, rfl, wpAny_pure h⟩) fits)
    | exact wpAny_bind (m := Builtin.Tuple.tupleExact _) (wpAny_newObj_type (wpAny_bind (wpAny_pure (wpAny_pure ⟨_, rfl, wpAny_pure h⟩))) fits)
    | exact wpAny_bind (wpAny_bind (m := Builtin.Tuple.tupleExact _) (wpAny_newObj_type (wpAny_pure (wpAny_pure ⟨_, rfl, wpAny_pure h⟩)) fits))
    | exact wpAny_bind (wpAny_bind (m := Builtin.Tuple.tupleExact _) (wpAny_newObj_type (wpAny_pure ⟨_, rfl, wpAny_pure h⟩) fits))
end
def tRevT (K : PySem.W.Frag) (te : TE) : TE := tUn (fun x H1 Q => ∃ a xs, x = .ref a ∧ SqT K H1 a xs ∧ ∀ p, H1 p = none → Q (.ref p) (upd H1 p (.tup xs.reverse))) te
theorem pe_revT {te : TE} {k : Nat} {p1 p2 p3 : Pos} (he : PE X e te) : PE X (.Subscript e (.Slice none none (some (.UnaryOp .USub (.Constant (.int 1) k p1) p2)) p3) pos) (tRevT X.K te) := by
  refine ⟨fun pins s σ H Q I hw => ?_⟩
  refine Subscript_ (thn (he.run pins s σ H _ I hw) fun v s1 hz => ?_)
  obtain ⟨x, H1, I1, r1, a, xs, ex, hx, q⟩ := hz
  subst ex
  cases (show v = Value.ref a from r1)
  have hst : PO X (some (.UnaryOp .USub (.Constant (.int 1) k p1) p2)) (tPart (tUn (rU fun i => .int (-i)) (tC (.int 1)))) := po_some (pe_un un_neg pe_int)
  refine wpAny_Slice (thn (po_none.run pins s1 σ H1 (fun o H2 => o = none ∧ H2 = H1) I1 ⟨rfl, rfl⟩) fun vl s2 hz => ?_)
  obtain ⟨l, H2, I2, pl, el, e2⟩ := hz
  subst el e2
  refine thn (po_none.run pins s2 σ H2 (fun o H3 => o = none ∧ H3 = H2) I2 ⟨rfl, rfl⟩) fun vu s3 hz => ?_
  obtain ⟨u, H3, I3, pu, eu, e3⟩ := hz
  subst eu e3
  refine thn (hst.run pins s3 σ H3 (fun o H4 => o = some (-1) ∧ H4 = H3) I3 ⟨1, rfl, -1, rfl, rfl, rfl⟩) fun vs s4 hz => ?_
  obtain ⟨o, H4, I4, ps, eo, e4⟩ := hz
  subst eo e4
  cases pl
  cases pu
  have I5 : Inv X pins σ H4 { s4 with heap := s4.heap.push { cls := .type "slice", data := .fields #[.none, .none, vs] } } := I4.kept (t' := s4.toks) fun b ob q => Heap.get?_push_of_some _ q
  obtain ⟨its, r, ht, hz⟩ := I5.tuple hx
  have hlen := r.length
  show wpAny (model X.prog X.w) X.A (subscriptTail e (.Slice none none (some (.UnaryOp .USub (.Constant (.int 1) k p1) p2)) p3) (.ref a) (.ref s4.heap.objs.size)) (EP X pins σ Q) X.xe { s4 with heap := s4.heap.push { cls := .type "slice", data := .fields #[.none, .none, vs] } }
  refine tail_any (ops := [.ref a, .ref s4.heap.objs.size]) ht.typeIs (PyProof.Rows.slot_tuple_getitem.lookup) ?_ (by with_unfolding_all rfl)
  refine getItem_rev ht (Heap.IsSliceOf.new _ .none .none vs) ps ?_ (by omega)
  refine ⟨.ref _, _, I5.laid (t' := s4.toks) (o := .tup xs.reverse) (fun b ob q => Heap.get?_push_of_some _ q) (Nat.le_refl _) ?_, rfl, q _ (I5.hok.fresh (Nat.le_refl _))⟩
  exact ⟨by rw [List.length_reverse]; exact hz, its.reverse, r.reverse, ⟨_, Heap.get?_push_size _ rfl, rfl, _, rfl⟩⟩
theorem RepL.rev {O : Av} {H : Hp} : ∀ {ds : List D} {vs : List V}, RepL w O H ds vs → RepL w O H ds.reverse vs.reverse
  | [], vs, h => by
    simp only [RepL] at h
    subst h
    simp [RepL]
  | d :: ds, vs, h => by
    simp only [RepL] at h
    obtain ⟨v, vs', rfl, h1, h2⟩ := h
    rw [List.reverse_cons, List.reverse_cons]
    exact RepL.append (RepL.rev h2) (by simp only [RepL]; exact ⟨v, [], rfl, h1, rfl⟩)
def revT : D → Option Vl
  | .tup xs => some (.tup xs.reverse, false)
  | _ => none
theorem pm_revT {k : Nat} {p1 p2 p3 : Pos} (hK : w.K = X.K) (he : PM X w W e m) : PM X w W (.Subscript e (.Slice none none (some (.UnaryOp .USub (.Constant (.int 1) k p1) p2)) p3) pos) (mOp1 revT m) := by
  obtain ⟨te, pe, se⟩ := he
  refine ⟨_, pe_revT pe, sim_op1 (fun O H x z vx Q dm e hx kk => ?_) se⟩
  cases x with
  | tup xs =>
    cases e
    simp only [Rep] at hx
    obtain ⟨a, vs, rfl, h1, h2⟩ := hx
    exact ⟨a, vs, rfl, hK ▸ sq_of_rep h1, fun p hp => kk.newT dm h2.rev hp⟩
  | _ => cases e

/-! ### d[k], d a dict of the module -/
def kdF (tab : Str → Option D) : D → Option Vl
  | .str z => (tab z).map fun d => (d, false)
  | _ => none
def KdOk (X : Cx) (w : Wd) (x : Str) (tab : Str → Option D) : Prop := ∃ a, X.mg x = some (.ref a) ∧ ∀ z d, tab z = some d → ∃ v, KDct X.K X.w a z v ∧ ∀ O H, Rep w O H d v
theorem pm_kd {x : Str} {tab : Str → Option D} (hd : KdOk X w x tab) (hg : Gl X x) (hb : PM X w W b mb) (hs : PlainIx b := by exact fun _ _ => rfl) (hdb : (x == ("__debug__" : Str)) = false := by decide) : PM X w W (.Subscript (.Name x p) b pos) (mOp1 (kdF tab) mb) := by
  obtain ⟨tb, pb, sb⟩ := hb
  obtain ⟨a, hm, ht⟩ := hd
  refine ⟨_, pe_ix ix_kdict (pe_glob (v := .ref a) hg hm rfl hdb) pb hs, fun F O ρ σ H Q hw R hh => ?_⟩
  subst hw
  show tb σ H _
  refine sb.bind rfl R hh fun y u ρ1 O1 H1 st1 R1 ry h1 => ?_
  cases e : kdF tab y.1 with
  | none => rw [e] at h1; exact h1.elim
  | some z =>
    rw [e] at h1
    unfold kdF at e
    split at e
    · rename_i s ey
      rw [ey] at ry
      simp only [Rep] at ry
      cases q : tab s with
      | none => rw [q] at e; cases e
      | some d =>
        rw [q] at e
        cases e
        obtain ⟨v, kd, rp⟩ := ht s d q
        exact ⟨a, s, v, rfl, ry, kd, (h1.go st1 R1).val (rp _ _)⟩
    · cases e
end
end PM

/-! enumerate(tuple) -/
namespace PM
open PySem PySem.Spec PyProof.Rows L2
theorem enum_new {v : Value} {o : Obj} {G : Heap → Prop} (B : Begins v o G) :
    Meets (Builtin.«enumerate.__new__» ⟨[.type "enumerate", v], []⟩) (fun _ R s => G s.heap ∧
      R (.ok (.ret (.ref (s.heap.push o).objs.size))) { s with heap := (s.heap.push o).push { cls := .type "enumerate", data := .fields #[.none, .bool false, .ref s.heap.objs.size, rawInt 0, .none, .none] } }) :=
  .of_wp fun prog w A R s h => by
    obtain ⟨hp, g, d, tk, os⟩ := s; obtain ⟨h1, h⟩ := h
    have hsub := sub_enumerate
    have q1 : ∀ {A' : Around} {E : Value → Shared → Prop} {Q : Value → Shared → Prop}, Q (.ref hp.objs.size) ⟨hp.push o, g, d, tk, os⟩ → wpAny (model prog w) A' (pyIter v) Q E ⟨hp, g, d, tk, os⟩ :=
      fun q => B.iter prog w _ _ ⟨hp, g, d, tk, os⟩ _ h1 q
    wp_walk using q1
    refine wpAny_stack_any fun st => wpAny_pure ?_
    split
    · rename_i c _ _ _ _ _
      cases (c == Value.type "enumerate")
      · wp_walk using q1
        exact ⟨_, rfl, h⟩
      · wp_walk using q1
        exact ⟨_, rfl, h⟩
    · wp_walk using q1
      exact ⟨_, rfl, h⟩
section
variable {prog : Program} {w : World} {A : Around} {E : Value → Shared → Prop} {s : Shared}
theorem enum_call {v : Value} {o : Obj} {G : Heap → Prop} {Q : Value → Shared → Prop} (B : Begins v o G) (h1 : G s.heap)
    (h : ∀ h', IsEnum h' (s.heap.objs.size + 1) s.heap.objs.size 0 .none → h'.get? s.heap.objs.size = some o → (∀ b o, s.heap.get? b = some o → h'.get? b = some o) → Q (.ref (s.heap.objs.size + 1)) { s with heap := h' }) :
    wpAny (model prog w) A (call (.type "enumerate") [v]) Q E s := by
  refine callType_new F.called_enumerate (by decide) (F.typeCall_enumerate_1 _) (F.newCall_enumerate_1 _) (fun obj => F.args_object_init_2 obj _) F.entry_enumerate_new (enum_new B) ⟨h1, ?_⟩
  have hz : (s.heap.push o).objs.size = s.heap.objs.size + 1 := Heap.size_push ..
  show _ ∧ _
  rw [hz]
  have he : IsEnum ((s.heap.push o).push { cls := .type "enumerate", data := .fields #[.none, .bool false, .ref s.heap.objs.size, rawInt 0, .none, .none] }) (s.heap.objs.size + 1) s.heap.objs.size 0 .none := by
    have := Heap.get?_push_size (s.heap.push o) (o := { cls := .type "enumerate", data := .fields #[.none, .bool false, .ref s.heap.objs.size, rawInt 0, .none, .none] }) rfl
    rw [hz] at this; exact this
  exact ⟨⟨_, he, rfl⟩, h _ he (Heap.get?_push_of_some _ (Heap.get?_push_size _ B.free)) fun b o x => Heap.get?_push_of_some _ (Heap.get?_push_of_some _ x)⟩
end
/-- the tuple at a, each item in a new pair -/
def IteT (K : PySem.W.Frag) (a : Addr) : It :=
  ⟨fun i H => ∃ (xs : List V) (x : V), SqT K H a xs ∧ xs[i]? = some x, fun i H v H' => ∃ T x, v = .ref T ∧ H T = none ∧ H' = upd H T (.tup [.int (i : Nat), x]) ∧ ∀ xs, SqT K H a xs → xs[i]? = some x, fun i H => ∃ xs : List V, SqT K H a xs ∧ xs.length = i⟩
theorem turn_enumT {P : Program} {w : World} {K : PySem.W.Frag} {elts : List Expr} {kk : Nat} {tpos : Pos} (a e it : Addr) :
    Turn P w K (.Tuple elts kk tpos) (IteT K a) [e, it] e (fun i h => (∃ old, IsEnum h e it ((i : Nat) : Int) old) ∧ h.IsTupleIter it a i ∧ e ≠ it ∧ e ≠ a ∧ it ≠ a) where
  mem := by simp
  obj := fun i h st b hb => by
    obtain ⟨⟨old, he⟩, ⟨o, ho, hc, hd⟩, _⟩ := st
    have e' : b = e ∨ b = it := by simpa using hb
    rcases e' with z | z
    · rw [z]; exact ⟨_, he, fun v q => nomatch q⟩
    · rw [z]; exact ⟨o, ho, fun v q => by rw [hd] at q; cases q⟩
  keep := fun i h h' st k => let ⟨⟨old, he⟩, hi, hne⟩ := st; ⟨⟨old, k e (by simp) _ he⟩, hi.at fun o q => k it (by simp) o q, hne⟩
  item := by
    intro X hP hw hK hc i pins s σ H E I hf st hg
    subst hP hw hK
    obtain ⟨⟨old, he⟩, hit, hne, hea, hia⟩ := st
    obtain ⟨xs, x, hq, hx⟩ := hg
    obtain ⟨its, rv, p, hz⟩ := I.tuple hq
    obtain ⟨u, hu, ru⟩ := rv.get hx
    have hel : e < s.heap.objs.size := Heap.lt_size he
    have hil : it < s.heap.objs.size := by obtain ⟨_, q, _⟩ := hit; exact Heap.lt_size q
    have hlt : i < its.toArray.size := by
      rw [List.size_toArray]
      exact (List.getElem?_eq_some_iff.mp hu).1
    refine wpAny_pyNext_enum_itemD (Draws.tuple (A := X.A.in1) (I.ok.hd hc) it a (Ne.symm hia) its.toArray) he ⟨hit, show s.heap.IsTuple a its.toArray from p⟩ hlt hne (by simp [hne, hea]) fun x' h' tk hx' ho hst' hT hsz hk => ?_
    have ex : x' = u := by
      have hx' : its.toArray[i]? = some x' := hx'
      rw [List.getElem?_toArray, hu] at hx'
      exact (Option.some.inj hx').symm
    subst ex
    refine ⟨_, rfl, wpAny_letOwnedTupleGo_enum (s := { s with heap := h', toks := tk + 1 }) ho fun h'' he' sb => ?_⟩
    have hT2 : h''.get? s.heap.objs.size = some { cls := .type "tuple", data := .seq #[.int i tk, x'] } := (sb.2 _ (Nat.ne_of_gt hel)).trans hT
    have new : ObjOk X.prog X.w (upd H s.heap.objs.size (.tup [.int (i : Nat), x])) h'' s.heap.objs.size (.tup [.int (i : Nat), x]) :=
      ⟨by show 2 ≤ sizeLine; decide, [.int i tk, x'], .cons ⟨_, rfl⟩ (.cons ru .nil), ⟨_, hT2, rfl, _, rfl⟩⟩
    have I1 : Inv X pins σ (upd H s.heap.objs.size (.tup [.int (i : Nat), x])) { s with heap := h'', toks := tk + 1 } :=
      I.turnedNew (ch := [e, it]) (fun b ob hb q => (sb.2 b (fun z => hb (by simp [z]))).trans (hk b ob (fun z => hb (by simp [z])) (fun z => hb (by simp [z])) q)) hf (Nat.le_refl _) new
    refine ⟨.ref s.heap.objs.size, _, I1, rfl, ⟨_, x, rfl, I.hok.fresh (Nat.le_refl _), rfl, fun ys hy => by rw [I.tuple_inj hy hq]; exact hx⟩, ⟨⟨x', ?_⟩, hst'.1.at fun o q => (sb.2 it (Ne.symm hne)).trans q, hne, hea, hia⟩, fun b hb => ?_⟩
    · have e1 : ((i + 1 : Nat) : Int) = (i : Int) + 1 := by omega
      rw [e1]; exact he'
    · have hb' : b < s.heap.objs.size := by
        have e' : b = e ∨ b = it := by simpa using hb
        rcases e' with z | z
        · rw [z]; exact hel
        · rw [z]; exact hil
      rw [upd_ne (Nat.ne_of_lt hb')]
      exact (hf b hb).1
  done := by
    intro X hP hw hK hc i pins s σ H E I hf st hg
    subst hP hw hK
    obtain ⟨⟨old, he⟩, hit, hne, hea, hia⟩ := st
    obtain ⟨xs, hq, hx⟩ := hg
    obtain ⟨its, rv, p, hz⟩ := I.tuple hq
    obtain ⟨f0, f1, f2, f3, f4, f5⟩ := hf it (by simp)
    have hl := rv.length
    have en : i = its.toArray.size := by rw [List.size_toArray]; omega
    rw [en] at hit
    exact wpAny_pyNext_enum_endD (Draws.tuple (A := X.A.in1) (I.ok.hd hc) it a (Ne.symm hia) its.toArray) he ⟨hit, show s.heap.IsTuple a its.toArray from p⟩ fun h' eb => ⟨rfl, I.turned (t' := s.toks) (fun b o hb q => eb b o hb q) f0 f1 f3 f4 f5⟩
  self := fun A i s Q E st h => let ⟨⟨_, he⟩, _⟩ := st; wpAny_pyIter_enum he h
def iEnumT (K : PySem.W.Frag) (ta : TA) : TI := fun σ H R => ta σ H fun vs H1 => ∃ a xs, vs = [.ref a] ∧ SqT K H1 a xs ∧ R (IteT K a) H1
theorem pi_enumT {X : Cx} {e : Expr} {ta : TA} {p pos tpos : Pos} {elts : List Expr} {kk : Nat} (hg : Gl X "enumerate") (hm : X.mg "enumerate" = none) (ha : PA X [e] ta) (hs : starEach [e] X.env = [(false, eval e X.env)] := by rfl) :
    PI X (.Tuple elts kk tpos) (.Call (.Name "enumerate" p) [e] [] pos) (iEnumT X.K ta) := by
  refine ⟨fun pins s σ H R I hw => ?_⟩
  refine Call_ (ld_blt I hg hm boot_enumerate (PyProof.Rows.callWith_type1 (thn (ha.run pos pins s σ H _ I hw) fun us s1 hz => ?_) hs rfl))
  obtain ⟨vs, H1, I1, r1, a, xs, ex, hq, q⟩ := hz
  subst ex
  cases r1 with
  | cons r rr =>
    cases rr
    cases r
    obtain ⟨its, rv, p', hz⟩ := I1.tuple hq
    refine enum_call (begins_tuple a its.toArray) (show s1.heap.IsTuple a its.toArray from p') fun h' he hit hk => wpAny_pyIter_enum he ?_
    have I2 : Inv X pins σ H1 { s1 with heap := h' } := I1.kept (t' := s1.toks) hk
    have al : a < s1.heap.objs.size := by obtain ⟨o, ho, _⟩ := p'; exact Heap.lt_size ho
    refine ⟨s1.heap.objs.size + 1, [s1.heap.objs.size + 1, s1.heap.objs.size], _, _, H1, rfl, I2, turn_enumT a (s1.heap.objs.size + 1) s1.heap.objs.size, ⟨⟨.none, he⟩, ⟨_, hit, rfl, rfl⟩, Nat.succ_ne_self _, Nat.ne_of_gt (Nat.lt_succ_of_lt al), Nat.ne_of_gt al⟩, fun b hb => ?_, q⟩
    have e' : b = s1.heap.objs.size + 1 ∨ b = s1.heap.objs.size := by simpa using hb
    have hle : s1.heap.objs.size ≤ b := by
      rcases e' with z | z
      · rw [z]; exact Nat.le_add_right _ _
      · rw [z]; exact Nat.le_refl _
    exact I1.fpOk hle (I1.hok.fresh hle)
section
variable {K : PySem.W.Frag} {a : Addr} {xs : List V}
theorem walk_enumT : Walk (IteT K a) xs.length (fun H => SqT K H a xs) (YPair (fun i => some (.int (i : Nat))) (fun i => xs[i]?)) := by
  refine ⟨fun i _ hi q => ⟨xs, xs[i], q, by simp [hi]⟩, fun _ q => ⟨xs, q, rfl⟩, fun i H v H' _ q y => ?_⟩
  obtain ⟨T, x, h1, h2, h3, h4⟩ := y
  exact ⟨T, .int (i : Nat), x, h1, h2, h3, rfl, h4 xs q⟩
end
def enumL : Nat → List D → List D
  | _, [] => []
  | i, d :: ds => .tup [.int i, d] :: enumL (i + 1) ds
theorem enumL_len : ∀ (i : Nat) (ds : List D), (enumL i ds).length = ds.length
  | _, [] => rfl
  | i, d :: ds => by simp [enumL, enumL_len (i + 1) ds]
theorem enumL_drop : ∀ (i j : Nat) (ds : List D) (d : D), ds[i]? = some d → (enumL j ds).drop i = .tup [.int (j + i : Nat), d] :: (enumL j ds).drop (i + 1)
  | _, _, [], _, e => by simp at e
  | 0, j, x :: ds, d, e => by
    simp at e
    subst e
    simp [enumL]
  | i + 1, j, x :: ds, d, e => by
    have := enumL_drop i (j + 1) ds d (by simpa using e)
    simp only [enumL, List.drop_succ_cons]
    rw [this]
    congr 4
    omega
def itE : List D → Option (List D)
  | [.tup ds] => some (enumL 0 ds)
  | _ => none
section
variable {w : Wd} {W : WX} {X : Cx} {pos p tpos : Pos} {e : Expr} {mr : MA} {elts : List Expr} {kk : Nat}
theorem pmi_enumT (hK : w.K = X.K) (hg : Gl X "enumerate") (hm : X.mg "enumerate" = none) (ha : PMA X w W [e] mr) (hs : starEach [e] X.env = [(false, eval e X.env)] := by rfl) : PMI X w W (.Tuple elts kk tpos) (.Call (.Name "enumerate" p) [e] [] pos) (mItA itE mr) := by
  obtain ⟨t, pa, sa⟩ := ha
  refine ⟨_, pi_enumT hg hm pa hs, fun F O ρ σ H R hw R0 hh => ?_⟩
  subst hw
  refine sa.bind rfl R0 hh fun xs vs ρ1 O1 H1 st R1 rs h1 => ?_
  cases q : itE xs with
  | none => rw [q] at h1; exact h1.elim
  | some zs =>
    rw [q] at h1
    unfold itE at q
    split at q
    · rename_i ds
      cases q
      obtain ⟨v, rfl, rv⟩ := repl1 rs
      simp only [Rep] at rv
      obtain ⟨a, us, rfl, h2, h3⟩ := rv
      refine ⟨a, us, rfl, hK ▸ sq_of_rep h2, h1 O1 H1 _ st R1 ?_⟩
      refine ⟨_, _, by rw [enumL_len, ← h3.length]; exact walk_enumT, fun O' H' s' => hK ▸ sq_of_rep (h2.imp (At.step s') id), fun i O' H' x H'' hi s' dm hy => ?_⟩
      obtain ⟨T, n, y, rfl, hT, rfl, e1, e2⟩ := hy
      cases e1
      rw [enumL_len] at hi
      obtain ⟨y', e3, r3⟩ := h3.get (List.getElem?_eq_getElem hi)
      have e2 : us[i]? = some y := e2
      rw [e2] at e3
      cases e3
      refine ⟨Grow.new hT, _, enumL_drop i 0 ds _ (List.getElem?_eq_getElem hi), ?_⟩
      have s2 : Step O1 H1 O' (upd H' T (.tup [.int (i : Nat), y])) := s'.trans (Grow.new hT).step
      simp only [Rep, RepL]
      refine ⟨T, [.int (i : Nat), y], rfl, .inl ⟨fun q => dm T q hT, upd_same⟩, .int (i : Nat), [y], rfl, by simp, y, [], rfl, Rep.step s2 _ _ r3, rfl⟩
    · cases q
end
end PM

/-! the law's end where its promise holds under callers below whom no repr runs; the head's facts -/
namespace PM
open PySem PySem.Spec PyProof.Rows L2
section
variable {P : Program} {wo : World} {K : PySem.W.Frag} {mg mb : Str → Option Value} {Z : CXT} {k : Nat} {fa a : Addr} {fd : FuncData} {x : Str} {sp : Sp} {s1 : Shared} {us : List Value} {ns : List Int}
theorem law_callG (KX : K.In s1.heap) (hns : s1.heap.Ns mainGlobals mg) (hb : s1.heap.Ns builtinsNs mb) (hbb : ∀ x : Str, x ≠ "__name__" → mb x = bootBuiltins x) (hlim : s1.heap.NoLimit) (hg : s1.gens = #[])
    (ha : s1.heap.get? a = some { cls := .type "list", data := .seq us.toArray }) (hi : IntsAre us ns) (hl : ns.length ≤ sizeLine) (hr : Room k callerA) (hgu : callerA.guards = some [])
    (F : ∀ b0 : Heap, K.In b0 → b0.Ns mainGlobals mg → FnG P wo K mg b0 Z k fa fd [x] sp) (hbind : ∀ (s : Shared) (u : Value), BindsTo s fd ⟨[u], []⟩ [(x, u)])
    (hsp : ∀ H : Hp, Only H → SqL K H a (ns.map V.int) → sp [.ref a] H (fun v _ => v = .bl true) fun _ _ _ => False) (hZ : ∀ H e s', Z [] H s1 (fun _ _ _ => False) e s' → False) :
    codeAny (model P wo) callerA (.call (.ref fa) ⟨[.ref a], []⟩) (fun r s' => r = .ok (.ret (.bool true)) ∧ OldK s1.heap s'.heap ∧ s'.os = s1.os ∧ AllBare s'.gens) s1 := by
  have rv := vals_ints hi
  have lenV := hi.length
  have core : ∀ G : Hp, Only G → SqL K G a (ns.map V.int) → HOk P wo G s1.heap → (∀ b, G b ≠ none → b = a) → (G a ≠ none → K.lookup a = none) →
      codeAny (model P wo) callerA (.call (.ref fa) ⟨[.ref a], []⟩) (fun r s' => r = .ok (.ret (.bool true)) ∧ OldK s1.heap s'.heap ∧ s'.os = s1.os ∧ AllBare s'.gens) s1 := fun G hO hS hok hA hKn => by
    have old : ∀ {b : Addr} {o : Obj}, s1.heap.get? b = some o → G b = none → (hidT s1.heap G).get? b = some o := fun e n => hidT_get e n
    have eqA : ∀ {b : Addr} {u : HO}, G b = some u → b = a := fun {b u} q => hA b (by rw [q]; simp)
    have noA : ∀ {b : Addr} {o : Obj} {es : Array DictEntry} {ep : Nat}, s1.heap.get? b = some o → o.data = .dict es ep → G b = none := fun {b o es ep} e d => by
      cases q : G b with
      | none => rfl
      | some u =>
        have z := eqA q
        subst z
        rw [ha] at e
        cases e
        cases (show Data.seq us.toArray _ = Data.dict es ep from d)
    have nsK : ∀ {b : Addr} {m : Str → Option Value}, s1.heap.Ns b m → (hidT s1.heap G).Ns b m := fun {b m} z => by
      obtain ⟨o, es, ep, e, d, r⟩ := z
      exact ⟨o, es, ep, old e (noA e d), d, r⟩
    have inB : K.In (hidT s1.heap G) := fun b o e => by
      refine old (KX b o e) ?_
      cases q : G b with
      | none => rfl
      | some u =>
        have z := eqA q
        subst z
        rw [hKn (by rw [q]; simp)] at e
        cases e
    have nol : (hidT s1.heap G).NoLimit := by
      obtain ⟨mc, h1, h2⟩ := hlim
      exact ⟨mc, nsK h1, h2⟩
    have e0 : Env0 P wo K mg (hidT s1.heap G) callerA [] s1 G := ⟨rfl, ⟨inB, nsK hns, ⟨mb, nsK hb, hbb⟩, nol⟩, fun b o e => of_hidT e, Nat.le_of_eq (hidT_size _ _), trivial, fun b z => absurd (show b ∈ ([] : List Addr) from z) (by simp), hok, .of_eq hg⟩
    refine codeAny_mono ((F _ inB (nsK hns)).run callerA [] s1 G ⟨[.ref a], []⟩ [.ref a] [.ref a] _ _ hgu hr e0 (hbind s1 (.ref a)) (.cons rfl .nil) (hsp G hO hS)) fun r s' h => ?_
    rcases r with e | fl
    · exact (hZ G e s' h).elim
    · cases fl with
      | next => exact h.elim
      | brk => exact h.elim
      | cont => exact h.elim
      | ret u =>
        obtain ⟨v, G', os, bare, un, hok', r', q⟩ := h
        cases (show v = .bl true from q)
        cases (show u = Value.bool true from r')
        refine ⟨rfl, OldK.of_keep fun b o e => ?_, os, bare⟩
        cases q : G b with
        | none => exact un.keep b o e q (fun z => absurd (show b ∈ ([] : List Addr) from z) (by simp)) (by simp)
        | some u =>
          rcases hO b with z | ⟨ob, xs, z⟩
          · rw [q] at z
            cases z
          · have z2 := un.frzs b ob _ z
            have e1 := (hok b _ z).1
            have e2 := (hok' b _ z2).1
            rw [e] at e1
            cases e1
            exact e2
  cases hk : K.lookup a with
  | some o =>
    have e := KX a o hk
    rw [ha] at e
    cases e
    exact core (fun _ => none) (fun _ => .inl rfl) (.inr ⟨_, us.toArray, _, hk, rfl, rfl, rfl, by rw [List.size_toArray, lenV]; exact hl, by simpa using rv⟩) (fun b u z => by cases (show (none : Option HO) = some u from z)) (fun b z => absurd rfl z) fun z => absurd rfl z
  | none =>
    have at_ : ∀ b, b = a → (fun c => if c = a then some (HO.frz { cls := .type "list", data := .seq us.toArray } (.lst (ns.map V.int))) else none) b = some (HO.frz { cls := .type "list", data := .seq us.toArray } (.lst (ns.map V.int))) := fun b e => if_pos e
    have off_ : ∀ b, b ≠ a → (fun c => if c = a then some (HO.frz { cls := .type "list", data := .seq us.toArray } (.lst (ns.map V.int))) else none) b = none := fun b e => if_neg e
    refine core (fun c => if c = a then some (HO.frz { cls := .type "list", data := .seq us.toArray } (.lst (ns.map V.int))) else none) (fun b => ?_) (.inl (.inr ⟨_, at_ a rfl⟩)) (fun b u z => ?_) (fun b z => ?_) fun _ => hk
    · by_cases e : b = a
      · exact .inr ⟨_, _, at_ b e⟩
      · exact .inl (off_ b e)
    · by_cases e : b = a
      · have z' := (at_ b e).symm.trans z
        cases z'
        subst e
        exact ⟨ha, by rw [List.length_map]; exact hl, us, _, rv, ha⟩
      · have z' := (off_ b e).symm.trans z
        cases z'
    · by_cases e : b = a
      · exact e
      · exact absurd (off_ b e) z
end
theorem walk_G {l : PySem.W.OpenLaw} {n k : Nat} {q : Program} {loose : List Str} {XP : (Str → Option Value) → Heap → Prop} {YP : World → Heap → Prop} {d : DefRec} {Z : CXT} {x : Str} (hn : l.most = some n) (hn2 : n ≤ sizeLine) (hdf : d.params.defaults = []) (hr : Room k callerA) (hgu : callerA.guards = some [])
    (F : ∀ (w : World) (mg : Str → Option Value) (fa : Addr) (h : Heap), YP w h → h.Ns mainGlobals mg → mg d.name = some (.ref fa) →
      ∃ (K : PySem.W.Frag) (fd : FuncData) (sp : Sp), K.In h ∧ (∀ (s : Shared) (u : Value), BindsTo s fd ⟨[u], []⟩ [(x, u)]) ∧
        (∀ (H : Hp) (a : Addr) (ns : List Int), ns.length ≤ n → Only H → SqL K H a (ns.map V.int) → sp [.ref a] H (fun v _ => v = .bl true) fun _ _ _ => False) ∧ ∀ b0 : Heap, K.In b0 → b0.Ns mainGlobals mg → FnG l.prog w K mg b0 Z k fa fd [x] sp)
    (hZ : ∀ (H : Hp) (s : Shared) (e : Value) (s' : Shared), Z [] H s (fun _ _ _ => False) e s' → False) : PySem.W.WalkO q loose XP YP l.row.toRowW d [] (fun f vs => PySem.call f vs) := by
  refine Att.attach_call hn hdf fun w s0 s1 mg mb fa o pm cd doc a vs ns G Y ho hd hcd hmg hobj hints hlen hg => ?_
  obtain ⟨K, fd, sp, KX, hb, hsp, hF⟩ := F w mg fa _ Y G.T.g hmg
  exact law_callG KX G.T.g G.T.b G.T.builtins G.T.nolimit hg hobj hints (Nat.le_trans hlen hn2) hr hgu hF hb (fun H hO hS => hsp H a ns hlen hO hS) fun H e s' => hZ H s1 e s'
/-- the script is data -/
theorem scr_of {w : Wd} {H : Hp} {a : Addr} {ns : List Int} (hO : Only H) (h : SqL w.K H a (ns.map V.int)) : Rep w (fun _ => False) H (.scr (ns.map D.int)) (.ref a) := by
  have rl : RepL w (fun _ => False) H (ns.map D.int) (ns.map V.int) := by
    clear h
    induction ns with
    | nil => simp [RepL]
    | cons n ns ih => simp only [List.map_cons, RepL, Rep]; exact ⟨_, _, rfl, rfl, ih⟩
  simp only [Rep]
  refine ⟨a, ns.map V.int, rfl, ?_, rl⟩
  rcases h with (h | ⟨o, h⟩) | h
  · rcases hO a with z | ⟨o, xs, z⟩
    · rw [h] at z; cases z
    · rw [h] at z; cases z
  · exact .inl ⟨o, fun q => q, h⟩
  · exact .inr h
theorem law_sp {w : Wd} {f : Fn} {H : Hp} {a : Addr} {ns : List Int} (hO : Only H) (h : SqL w.K H a (ns.map V.int)) (e : f none [.scr (ns.map D.int)] = .ret (.bl true, false) none) : spOf w 1 f [.ref a] H (fun v _ => v = .bl true) fun _ _ _ => False := by
  refine ⟨fun _ => False, none, [.scr (ns.map D.int)], fun _ z => z.elim, rfl, ?_, ?_⟩
  · show RepL w (fun _ => False) H [D.scr (ns.map D.int)] [.ref a]
    simp only [RepL]
    exact ⟨_, _, rfl, scr_of hO h, rfl⟩
  · rw [e]
    refine ⟨rfl, fun H' v _ r => ?_⟩
    have r1 := r.1
    simp only [Rep] at r1
    exact r1

/-! ### the head's facts -/
/-- a def: where it stands, its name, its qualified name, its text -/
structure DfM where
  at_ : PySem.W.Frag → Addr
  name : Str
  qual : Str
  st : Stmt
def fnM (K : PySem.W.Frag) (a : Addr) : He.FnV := match K.lookup a with
  | some ⟨_, _, .func fd, _⟩ => some (fd.name, fd.qualname, fd.params, fd.body, fd.scope, fd.globals, fd.closure, fd.defaults, fd.builtins)
  | _ => none
def DfM.val (d : DfM) : He.FnV := some (d.name, d.qual, defArgs d.st, .stmts (defBody d.st), defScope d.st, mainGlobals, [], .none, builtinsNs)
def DfM.ok (K : PySem.W.Frag) (d : DfM) : Bool := PySem.W.keepIn K (.ref (d.at_ K)) && (match K.lookup (d.at_ K) with
  | some ⟨_, _, .func fd, _⟩ => PySem.W.codeIn K fd.code d.qual
  | _ => false)
theorem DfM.fun {K : PySem.W.Frag} {d : DfM} (e : fnM K (d.at_ K) = d.val) (c : d.ok K = true) : ∃ fd, Fun K d.name d.qual d.st (d.at_ K) fd := by
  obtain ⟨kp, c2⟩ := He.ba c
  unfold fnM at e
  cases q : K.lookup (d.at_ K) with
  | none =>
    rw [q] at c2
    cases c2
  | some o =>
    obtain ⟨oc, od, dt, osl⟩ := o
    rw [q] at c2 e
    cases dt with
    | func fd =>
      obtain ⟨n1, n2, n3, n4, n5, n6, n7, n8, n9, n10, n11, n12, n13, n14, n15⟩ := fd
      have e2 : (some (n1, n2, n3, n4, n5, n6, n7, n8, n15) : He.FnV) = d.val := e
      unfold DfM.val at e2
      simp only [Option.some.injEq, Prod.mk.injEq] at e2
      obtain ⟨h1, h2, h3, h4, h5, h6, h7, h8, h9⟩ := e2
      subst h1 h2 h3 h4 h5 h6 h7 h8 h9
      exact ⟨_, fun_mk q c2 kp⟩
    | _ => cases c2
abbrev Chk : Type := PySem.W.Frag → Bool
abbrev AlM : Type := (Bool × List He.FnV) × List (Option (List (Option (Str × Int))))
def obsM (cs : List Chk) (fn : List DfM) (ts : List He.Tab) (K : PySem.W.Frag) : AlM := (((cs.all fun c => c K) && fn.all fun d => d.ok K, fn.map fun d => fnM K (d.at_ K)), ts.map fun t => He.dicW K (t.1 K))
def valM (fn : List DfM) (ts : List He.Tab) (w : World) : AlM := ((true, fn.map DfM.val), ts.map fun t => some (He.keysIn w.params t.2))
def SaysM (cs : List Chk) (fn : List DfM) (ts : List He.Tab) (w : World) (K : PySem.W.Frag) : Prop := obsM cs fn ts K = valM fn ts w
def asM (g : Addr → Option Obj) : Nat → List Addr
  | 0 => [mainGlobals, cStatics]
  | n + 1 => He.growD g (asM g n)
def obsMG (n : Nat) (cs : List Chk) (fn : List DfM) (ts : List He.Tab) (g : Addr → Option Obj) : AlM := obsM cs fn ts (He.frG g (asM g n))
def hookM (n : Nat) (cs : List Chk) (fn : List DfM) (ts : List He.Tab) : PySem.W.Hook where
  α := AlM
  obs := fun s => obsMG n cs fn ts s.heap.get?
  val := fun w => valM fn ts w
  says := fun w h => ∃ K : PySem.W.Frag, K.In h ∧ SaysM cs fn ts w K
  of := fun _ _ e => ⟨_, He.frG_in, e⟩
  keeps := fun _ _ _ ⟨K, hK, c⟩ k => ⟨K, PySem.W.Frag.In.keeps hK k, c⟩
theorem obsMG_eq {n : Nat} {cs : List Chk} {fn : List DfM} {ts : List He.Tab} {g : Addr → Option Obj} {s : Shared} (h : ∀ a, g a = s.heap.get? a) : obsMG n cs fn ts g = (hookM n cs fn ts).obs s := by
  have e : g = s.heap.get? := funext h
  rw [e] <;> rfl
section
variable {cs : List Chk} {fn : List DfM} {ts : List He.Tab} {w : World} {K : PySem.W.Frag}
theorem SaysM.fact (c : SaysM cs fn ts w K) (i : Nat) {f : Chk} (h : cs[i]? = some f := by rfl) : f K = true := by
  have c1 := (He.ba (show ((cs.all fun c => c K) && fn.all fun d => d.ok K) = true from congrArg (fun z : AlM => z.1.1) c)).1
  exact List.all_eq_true.mp c1 f (List.mem_of_getElem? h)
theorem SaysM.def_ (c : SaysM cs fn ts w K) (i : Nat) {d : DfM} (h : fn[i]? = some d := by rfl) : ∃ fd, Fun K d.name d.qual d.st (d.at_ K) fd := by
  have c2 := (He.ba (show ((cs.all fun c => c K) && fn.all fun d => d.ok K) = true from congrArg (fun z : AlM => z.1.1) c)).2
  have e : fn.map (fun d => fnM K (d.at_ K)) = fn.map DfM.val := congrArg (fun z : AlM => z.1.2) c
  have e2 : (fn.map fun d => fnM K (d.at_ K))[i]? = (fn.map DfM.val)[i]? := by rw [e]
  rw [List.getElem?_map, List.getElem?_map, h] at e2
  exact DfM.fun (Option.some.inj e2) (List.all_eq_true.mp c2 d (List.mem_of_getElem? h))
theorem SaysM.tab (c : SaysM cs fn ts w K) (i : Nat) {t : He.Tab} (h : ts[i]? = some t := by rfl) : ∃ es n, KDict K w (t.1 K) es n := by
  have e : ts.map (fun t => He.dicW K (t.1 K)) = ts.map fun t => some (He.keysIn w.params t.2) := congrArg (fun z : AlM => z.2) c
  have e2 : (ts.map fun t => He.dicW K (t.1 K))[i]? = (ts.map fun t => some (He.keysIn w.params t.2))[i]? := by rw [e]
  rw [List.getElem?_map, List.getElem?_map, h] at e2
  exact He.dicW_ok (Option.some.inj e2)
end
end PM

/-! what the head looks at, as Bools over the written part; what follows -/
namespace PM
open PySem PySem.Spec PyProof.Rows L2
open PySem.W (Frag findIn specialIn takesIn typeIn slotIn recIn)
variable {K : Frag} {h : Heap} {mg : Str → Option Value} {w : Wd}
def and_ (a b : Bool) : Bool := a && b
theorem b2 {a b : Bool} (h : (a && b) = true) : a = true ∧ b = true := Bool.and_eq_true_iff.mp h
def gloB (x : Str) : Chk := fun K => (He.Fa.glo x).ok K
def freeB (x : Str) : Chk := fun K => (He.Fa.free x).ok K
def intB (x : Str) (i : Int) : Chk := fun K => (He.Fa.int x i).ok K
def strB (x z : Str) : Chk := fun K => (He.Fa.str x z).ok K
def sclsB (C : Str) : Chk := fun K => PySem.W.plainGet K (He.ga K C) Str.empty && (PySem.W.isClsIn K (He.ga K C) && (PySem.W.plainOver K (He.ga K C) && He.eqO (findIn K (.ref (He.ga K C)) "__setattr__") (some (some (.builtin "object.__setattr__")))))
theorem sclsB_ok {C : Str} (h : sclsB C K = true) : SlX.SCls K (He.ga K C) := by
  obtain ⟨h1, h⟩ := b2 h
  obtain ⟨h2, h⟩ := b2 h
  obtain ⟨h3, h4⟩ := b2 h
  exact ⟨h1, h2, h3, He.eqO_ok h4⟩
def obB (a b : Option Bool) : Bool := decide (a = b)
def sisiB (C : Str) : Chk := fun K => He.eqO (findIn K (.ref (He.ga K C)) "__class__") (some (some (.builtin "object.__class__"))) && (He.eqO (specialIn K (.builtin "object.__class__") "__get__") (some (some (.builtin "getset_descriptor.__get__"))) &&
  (obB (takesIn K (.builtin "object.__class__")) (some true) && obB (PySem.W.mroIn K (He.ga K C) (.type "object")) (some true)))
theorem sisiB_ok {C : Str} (h : sisiB C K = true) : SlX.SIsi K (He.ga K C) := by
  obtain ⟨h1, h⟩ := b2 h
  obtain ⟨h2, h⟩ := b2 h
  obtain ⟨h3, h4⟩ := b2 h
  exact ⟨He.eqO_ok h1, He.eqO_ok h2, of_decide_eq_true h3, of_decide_eq_true h4⟩
def slotB (C f : Str) (i : Nat) : Chk := fun K => He.eqO (findIn K (.ref (He.ga K C)) f) (some (some (.ref (He.ma K (He.ga K C) f)))) && (He.eqO (specialIn K (.ref (He.ma K (He.ga K C) f)) "__get__") (some (some (.builtin "member_descriptor.__get__"))) &&
  (obB (takesIn K (.ref (He.ma K (He.ga K C) f))) (some true) && (decide (typeIn K (.ref (He.ma K (He.ga K C) f)) = some (.type "member_descriptor")) && (decide (slotIn K (He.ma K (He.ga K C) f) (He.ga K C) = some i) && decide (i < 1000)))))
theorem slotB_ok {C f : Str} {i : Nat} (h : slotB C f i K = true) : ∃ p, SlX.Slot1 K (He.ga K C) f p i := by
  obtain ⟨h1, h⟩ := b2 h
  obtain ⟨h2, h⟩ := b2 h
  obtain ⟨h3, h⟩ := b2 h
  obtain ⟨h4, h⟩ := b2 h
  obtain ⟨h5, h6⟩ := b2 h
  exact ⟨_, He.eqO_ok h1, He.eqO_ok h2, of_decide_eq_true h3, of_decide_eq_true h4, of_decide_eq_true h5, of_decide_eq_true h6⟩
/-- the first field of a record -/
def recAd (K : Frag) (p : Addr) (T : String) : Addr := match recIn K p T with
  | some (.ref g :: _) => g
  | _ => 0
def recB (K : Frag) (p : Addr) (T : String) : Bool := match recIn K p T with
  | some (.ref _ :: _) => true
  | _ => false
theorem recB_ok {p : Addr} {T : String} (h : recB K p T = true) : ∃ rest, recIn K p T = some (.ref (recAd K p T) :: rest) := by
  unfold recB at h
  unfold recAd
  split at h
  · rename_i g rest e
    rw [e]
    exact ⟨rest, rfl⟩
  · cases h
def propAt (C f : Str) (K : Frag) : Addr := recAd K (He.ma K (He.ga K C) f) "property"
def cmAt (C f : Str) (K : Frag) : Addr := recAd K (He.ma K (He.ga K C) f) "classmethod"
def metAt (C f : Str) (K : Frag) : Addr := He.ma K (He.ga K C) f
def gloAt (x : Str) (K : Frag) : Addr := He.ga K x
def propB (C f : Str) : Chk := fun K => He.eqO (findIn K (.ref (He.ga K C)) f) (some (some (.ref (He.ma K (He.ga K C) f)))) && (He.eqO (specialIn K (.ref (He.ma K (He.ga K C) f)) "__get__") (some (some (.builtin "property.__get__"))) &&
  (obB (takesIn K (.ref (He.ma K (He.ga K C) f))) (some true) && recB K (He.ma K (He.ga K C) f) "property"))
theorem propB_ok {C f : Str} {c : Nat} (hK : w.K = K) (hc : w.cl c = He.ga K C) (h : propB C f K = true) (h' : sclsB C K = true) : PropOk w c f (propAt C f K) := by
  obtain ⟨h1, h⟩ := b2 h
  obtain ⟨h2, h⟩ := b2 h
  obtain ⟨h3, h4⟩ := b2 h
  subst hK
  exact ⟨by rw [hc]; exact sclsB_ok h', He.ma w.K (He.ga w.K C) f, by rw [hc]; exact He.eqO_ok h1, He.eqO_ok h2, of_decide_eq_true h3, recB_ok h4⟩
def methB (C f : Str) : Chk := fun K => He.eqO (findIn K (.ref (He.ga K C)) f) (some (some (.ref (metAt C f K)))) && (PySem.W.isFn K (.ref (metAt C f K)) && PySem.W.keepIn K (.ref (metAt C f K)))
theorem methB_ok {C f : Str} {c : Nat} (hK : w.K = K) (hc : w.cl c = He.ga K C) (h : methB C f K = true) (h' : sclsB C K = true) : MethOk w c f (metAt C f K) := by
  obtain ⟨h1, h⟩ := b2 h
  obtain ⟨h2, h3⟩ := b2 h
  subst hK
  exact ⟨by rw [hc]; exact sclsB_ok h', by rw [hc]; exact ⟨He.eqO_ok h1, h2, h3⟩⟩
def opB (C f : Str) : Chk := fun K => PySem.W.selfFirst K (He.ga K C) && (He.eqO (findIn K (.ref (He.ga K C)) f) (some (some (.ref (metAt C f K)))) && PySem.W.isFn K (.ref (metAt C f K)))
theorem opB_ok {C f : Str} {c : Nat} (hK : w.K = K) (hc : w.cl c = He.ga K C) (h : opB C f K = true) : OpOk w c f (metAt C f K) := by
  obtain ⟨h1, h⟩ := b2 h
  obtain ⟨h2, h3⟩ := b2 h
  subst hK
  exact ⟨by rw [hc]; exact h1, by rw [hc]; exact He.eqO_ok h2, h3⟩
def eqB (C : Str) : Chk := fun K => He.eqO (findIn K (.ref (He.ga K C)) "__eq__") (some (some (.ref (metAt C "__eq__" K)))) && (PySem.W.isFn K (.ref (metAt C "__eq__" K)) && (He.eqO (findIn K (.ref (He.ga K C)) "__ne__") (some (some (.builtin "object.__ne__"))) &&
  (obB (PySem.W.mroIn K (He.ga K C) (.type "object")) (some true) && ["NoneType", "bool", "int", "str"].all fun t => PySem.W.notFirst K (He.ga K C) (.type t))))
theorem eqB_ok {C : Str} {c : Nat} (hK : w.K = K) (hc : w.cl c = He.ga K C) (h : eqB C K = true) : EqOk w c (metAt C "__eq__" K) := by
  obtain ⟨h1, h⟩ := b2 h
  obtain ⟨h2, h⟩ := b2 h
  obtain ⟨h3, h⟩ := b2 h
  obtain ⟨h4, h5⟩ := b2 h
  subst hK
  refine ⟨by rw [hc]; exact He.eqO_ok h1, h2, by rw [hc]; exact He.eqO_ok h3, by rw [hc]; exact of_decide_eq_true h4, fun t ht => ?_⟩
  rw [hc]
  exact List.all_eq_true.mp h5 t ht
def mkB (C : Str) : Chk := fun K => (He.Fa.mkr C).ok K
theorem mkB_ok {C : Str} {c : Nat} (hc : w.cl c = He.ga K C) (h : mkB C K = true) : Mk K (w.cl c) (metAt C "__init__" K) := by
  rw [hc]
  exact He.mkr_ok h
def cfB (K : Frag) (C : Addr) (m : Str) (p : Addr) : Bool := match PySem.W.findCls K (.ref C) (.type "type") m with
  | some (.get (.builtin b) (.ref p') .none (.ref C')) => decide (b = "classmethod.__get__") && (decide (p' = p) && decide (C' = C))
  | _ => false
theorem cfB_ok {C p : Addr} {m : Str} (h : cfB K C m p = true) : PySem.W.findCls K (.ref C) (.type "type") m = some (.get (.builtin "classmethod.__get__") (.ref p) .none (.ref C)) := by
  unfold cfB at h
  split at h
  · rename_i b p' C' e
    obtain ⟨h1, h⟩ := b2 h
    obtain ⟨h2, h3⟩ := b2 h
    rw [e, of_decide_eq_true h1, of_decide_eq_true h2, of_decide_eq_true h3]
  · cases h
def cmB (C m : Str) : Chk := fun K => PySem.W.readsIn K (He.ga K C) (.type "type") && (He.eqO (specialIn K (.ref (He.ga K C)) "__getattribute__") (some (some (.builtin "type.__getattribute__"))) && (cfB K (He.ga K C) m (He.ma K (He.ga K C) m) && (recB K (He.ma K (He.ga K C) m) "classmethod" && PySem.W.fnIn K (cmAt C m K))))
theorem cmB_ok {C m : Str} {c : Nat} (hK : w.K = K) (hc : w.cl c = He.ga K C) (h : cmB C m K = true) : CmOk w c m (cmAt C m K) := by
  obtain ⟨h1, h⟩ := b2 h
  obtain ⟨h2, h⟩ := b2 h
  obtain ⟨h3, h⟩ := b2 h
  obtain ⟨h4, h5⟩ := b2 h
  subst hK
  exact ⟨.type "type", He.ma w.K (He.ga w.K C) m, by rw [hc]; exact ⟨h1, He.eqO_ok h2⟩, by rw [hc]; exact ⟨cfB_ok h3, recB_ok h4, h5⟩⟩
/-- isinstance: the answers -/
def kitV (K : Frag) (t : String ⊕ Str) : Value := match t with
  | .inl n => .type n
  | .inr C => .ref (He.ga K C)
def kitB (t u : String ⊕ Str) (b : Bool) : Chk := fun K => decide (PySem.W.kitOne K (kitV K t) (kitV K u) = some b)
theorem kitB_ok {t u : String ⊕ Str} {b : Bool} (h : kitB t u b K = true) : PySem.W.kitOne K (kitV K t) (kitV K u) = some b := of_decide_eq_true h
/-- a table's values -/
def valB (x k : Str) (v : He.Dv) : Chk := fun K => He.valsB K (He.ga K x) [(k, v)]
theorem valB_ok {wo : World} {x k : Str} {v : He.Dv} (hd : ∃ es n, KDict K wo (He.ga K x) es n) (h : valB x k v K = true) : KDct K wo (He.ga K x) k (v.v K) := by
  obtain ⟨es, n, d⟩ := hd
  obtain ⟨u, e1, e2⟩ := He.valsB_ok h (q := (k, v)) (by simp)
  obtain ⟨d1, d2, d3⟩ := d
  exact ⟨es, n, u, d1, d2, e1, e2⟩
end PM

/-! in, not in; is, is not; all -/
namespace PM
open PySem PySem.Spec PyProof.Rows L2
def vF : D → V
  | .non => .non
  | .bl b => .bl b
  | .int i => .int i
  | .str x => .str x
  | _ => .non
def flD : D → Bool
  | .non => true
  | .bl _ => true
  | .int _ => true
  | .str _ => true
  | _ => false
theorem fl_rep {w : Wd} {O : Av} {H : Hp} {d : D} {v : V} (h : Rep w O H d v) (f : flD d = true) : v = vF d ∧ flatV v = true := by
  cases d <;> simp [flD] at f <;> simp only [Rep] at h <;> subst h <;> exact ⟨rfl, rfl⟩
theorem fl_repL {w : Wd} {O : Av} {H : Hp} : ∀ {ds : List D} {vs : List V}, RepL w O H ds vs → ds.all flD = true → vs = ds.map vF ∧ vs.all flatV = true
  | [], vs, h, _ => by
    simp only [RepL] at h
    subst h
    exact ⟨rfl, rfl⟩
  | d :: ds, vs, h, f => by
    simp only [RepL] at h
    obtain ⟨v, vs', rfl, h1, h2⟩ := h
    rw [List.all_cons, Bool.and_eq_true] at f
    obtain ⟨e1, g1⟩ := fl_rep h1 f.1
    obtain ⟨e2, g2⟩ := fl_repL h2 f.2
    exact ⟨by rw [e1, e2]; rfl, by rw [List.all_cons, g1, g2]; rfl⟩
def seqD : D → Option (List D)
  | .tup ds => some ds
  | .lst ds => some ds
  | .scr ds => some ds
  | _ => none
def inF (neg : Bool) (x y : D) : Option Vl := (seqD y).bind fun ds => if flD x = true ∧ ds.all flD = true then some (dB (if neg then !inV (vF x) (ds.map vF) else inV (vF x) (ds.map vF))) else none
section
variable {w : Wd} {W : WX} {X : Cx} {pos p : Pos} {a b e : Expr} {ma mb m : ME} {mr : MA}
theorem o2_in (neg : Bool) : Op2 w (rIn w.K neg) (inF neg) := fun O H x y z vx vy Q dm e hx hy k => by
  unfold inF at e
  cases q : seqD y with
  | none => rw [q] at e; cases e
  | some ds =>
    rw [q] at e
    simp only [Option.bind_some] at e
    split at e
    · rename_i hf
      cases e
      obtain ⟨e1, f1⟩ := fl_rep hx hf.1
      have at_ : ∃ c vs, vy = .ref c ∧ (SqL w.K H c vs ∨ SqT w.K H c vs) ∧ RepL w O H ds vs := by
        cases y <;> simp [seqD] at q <;> subst q <;> simp only [Rep] at hy
        · obtain ⟨c, vs, h1, h2, h3⟩ := hy
          exact ⟨c, vs, h1, .inr (sq_of_rep h2), h3⟩
        · obtain ⟨c, vs, h1, h2, h3⟩ := hy
          exact ⟨c, vs, h1, .inl (sl_of_rep h2), h3⟩
        · obtain ⟨c, vs, h1, h2, h3⟩ := hy
          exact ⟨c, vs, h1, .inl (h2.imp (fun ⟨o, z⟩ => .inr ⟨o, z.2⟩) id), h3⟩
      obtain ⟨c, vs, rfl, hs, hr⟩ := at_
      obtain ⟨e2, f2⟩ := fl_repL hr hf.2
      refine ⟨c, vs, rfl, hs, f1, f2, ?_⟩
      rw [e1, e2]
      exact k.bl
    · cases e
theorem pm_in (hK : w.K = X.K) (ha : PM X w W a ma) (hb : PM X w W b mb) (hm : behindInMarks .In b = false := by rfl) : PM X w W (.Compare a [.In] [b] pos) (mOp2 (inF false) ma mb) := pm_cmp op_in_seq (hK ▸ o2_in false) ha hb hm
theorem pm_notIn (hK : w.K = X.K) (ha : PM X w W a ma) (hb : PM X w W b mb) (hm : behindInMarks .NotIn b = false := by rfl) : PM X w W (.Compare a [.NotIn] [b] pos) (mOp2 (inF true) ma mb) := pm_cmp op_notIn_seq (hK ▸ o2_in true) ha hb hm
theorem pmt_in (hK : w.K = X.K) (ha : PM X w W a ma) (hb : PM X w W b mb) (hm : behindInMarks .In b = false := by rfl) : PMT X w W (.Compare a [.In] [b] pos) (mTest (mOp2 (inF false) ma mb)) := pmt_cmp op_in_seq (hK ▸ o2_in false) ha hb hm
theorem pmt_notIn (hK : w.K = X.K) (ha : PM X w W a ma) (hb : PM X w W b mb) (hm : behindInMarks .NotIn b = false := by rfl) : PMT X w W (.Compare a [.NotIn] [b] pos) (mTest (mOp2 (inF true) ma mb)) := pmt_cmp op_notIn_seq (hK ▸ o2_in true) ha hb hm
/-- is, is not, of bools -/
def isBlD (neg : Bool) : D → D → Option Vl
  | .bl x, .bl y => some (dB (if neg then !decide (x = y) else decide (x = y)))
  | _, _ => none
theorem o2_isB : Op2 w rIsB (isBlD false) := fun O H x y z vx vy Q dm e hx hy k => by
  cases x <;> cases y <;> simp [isBlD] at e
  subst e
  simp only [Rep] at hx hy
  exact ⟨_, _, hx, hy, k.bl⟩
theorem o2_notB : Op2 w rNotB (isBlD true) := fun O H x y z vx vy Q dm e hx hy k => by
  cases x <;> cases y <;> simp [isBlD] at e
  subst e
  simp only [Rep] at hx hy
  refine ⟨_, _, hx, hy, ?_⟩
  have kk := k.bl
  simpa using kk
theorem pm_isB (ha : PM X w W a ma) (hb : PM X w W b mb) (hm : behindInMarks .Is b = false := by rfl) : PM X w W (.Compare a [.Is] [b] pos) (mOp2 (isBlD false) ma mb) := pm_cmp op_isBl o2_isB ha hb hm
theorem pm_notB (ha : PM X w W a ma) (hb : PM X w W b mb) (hm : behindInMarks .IsNot b = false := by rfl) : PM X w W (.Compare a [.IsNot] [b] pos) (mOp2 (isBlD true) ma mb) := pm_cmp op_notBl o2_notB ha hb hm
theorem pmt_isB (ha : PM X w W a ma) (hb : PM X w W b mb) (hm : behindInMarks .Is b = false := by rfl) : PMT X w W (.Compare a [.Is] [b] pos) (mTest (mOp2 (isBlD false) ma mb)) := pmt_cmp op_isBl o2_isB ha hb hm
theorem pmt_notB (ha : PM X w W a ma) (hb : PM X w W b mb) (hm : behindInMarks .IsNot b = false := by rfl) : PMT X w W (.Compare a [.IsNot] [b] pos) (mTest (mOp2 (isBlD true) ma mb)) := pmt_cmp op_notBl o2_notB ha hb hm
end
end PM

/-! all, any of a list of bools; a tuple repeated; a list turned round -/
namespace PM
open PySem PySem.Spec PyProof.Rows L2
def blsD : List D → Option (List Bool)
  | [] => some []
  | .bl b :: ds => (blsD ds).map fun bs => b :: bs
  | _ => none
theorem bls_rep {w : Wd} {O : Av} {H : Hp} : ∀ {ds : List D} {vs : List V} {bs : List Bool}, RepL w O H ds vs → blsD ds = some bs → vs = bs.map V.bl
  | [], vs, bs, h, e => by
    simp only [RepL] at h
    cases e
    exact h
  | d :: ds, vs, bs, h, e => by
    simp only [RepL] at h
    obtain ⟨v, vs', rfl, h1, h2⟩ := h
    cases d <;> simp only [blsD] at e <;> first | (cases e; done) | skip
    cases q : blsD ds with
    | none => rw [q] at e; cases e
    | some cs =>
      rw [q] at e
      cases e
      simp only [Rep] at h1
      rw [h1, bls_rep h2 q]
      rfl
def allD (any : Bool) : D → Option Vl
  | .lst ds => (blsD ds).map fun bs => dB (if any then bs.any id else bs.all id)
  | _ => none
section
variable {w : Wd} {W : WX} {X : Cx} {pos p : Pos} {a b e : Expr} {ma mb m : ME} {mr : MA}
theorem allD_some {any : Bool} {x : D} {z : Vl} (h : allD any x = some z) : ∃ ds bs, x = .lst ds ∧ blsD ds = some bs ∧ z = dB (if any then bs.any id else bs.all id) := by
  cases x <;> simp only [allD] at h <;> first | (cases h; done) | skip
  rename_i ds
  cases q : blsD ds with
  | none => rw [q] at h; cases h
  | some bs => rw [q] at h; cases h; exact ⟨ds, bs, rfl, q, rfl⟩
theorem pm_all (hK : w.K = X.K) (hc : X.calm = true) (hg : Gl X "all") (hm : X.mg "all" = none) (ha : PMA X w W [e] mr) (he : starEach [e] X.env = (false, eval e X.env) :: starEach [] X.env := by rfl) : PM X w W (.Call (.Name "all" p) [e] [] pos) (mCall (one1 (allD false)) mr) :=
  pm_callB (cr_all hc) (fun O H xs z vs Q dm e rs k => by
    obtain ⟨x, rfl, ez⟩ := one1_some e
    obtain ⟨v, rfl, hv⟩ := repl1 rs
    obtain ⟨ds, bs, rfl, hb, rfl⟩ := allD_some ez
    simp only [Rep] at hv
    obtain ⟨c, us, rfl, h1, h2⟩ := hv
    refine ⟨c, bs, rfl, ?_, k.bl⟩
    rw [← bls_rep h2 hb, ← hK]
    exact sl_of_rep h1) hg hm (by decide +kernel) ha (by decide) (by decide) he
theorem pm_any (hK : w.K = X.K) (hc : X.calm = true) (hg : Gl X "any") (hm : X.mg "any" = none) (ha : PMA X w W [e] mr) (he : starEach [e] X.env = (false, eval e X.env) :: starEach [] X.env := by rfl) : PM X w W (.Call (.Name "any" p) [e] [] pos) (mCall (one1 (allD true)) mr) :=
  pm_callB (cr_any hc) (fun O H xs z vs Q dm e rs k => by
    obtain ⟨x, rfl, ez⟩ := one1_some e
    obtain ⟨v, rfl, hv⟩ := repl1 rs
    obtain ⟨ds, bs, rfl, hb, rfl⟩ := allD_some ez
    simp only [Rep] at hv
    obtain ⟨c, us, rfl, h1, h2⟩ := hv
    refine ⟨c, bs, rfl, ?_, k.bl⟩
    rw [← bls_rep h2 hb, ← hK]
    exact sl_of_rep h1) hg hm (by decide +kernel) ha (by decide) (by decide) he
/-- xs[::-1], xs a list -/
def revL : D → Option Vl
  | .lst xs => some (.lst xs.reverse, true)
  | _ => none
theorem pm_revL {k : Nat} {p1 p2 p3 : Pos} (hK : w.K = X.K) (he : PM X w W e m) : PM X w W (.Subscript e (.Slice none none (some (.UnaryOp .USub (.Constant (.int 1) k p1) p2)) p3) pos) (mOp1 revL m) := by
  obtain ⟨te, pe, se⟩ := he
  refine ⟨_, pe_revL pe, sim_op1 (r := fun x H1 Q => ∃ a xs, x = .ref a ∧ SqL X.K H1 a xs ∧ ∀ p, H1 p = none → Q (.ref p) (upd H1 p (.lst xs.reverse))) (fun O H x z vx Q dm e hx kk => ?_) se⟩
  cases x with
  | lst xs =>
    cases e
    simp only [Rep] at hx
    obtain ⟨a, vs, rfl, h1, h2⟩ := hx
    exact ⟨a, vs, rfl, hK ▸ sl_of_rep h1, fun p hp => kk.newL h2.rev hp⟩
  | _ => cases e
end
end PM

/-! one's own list turned round -/
namespace PM
open PySem PySem.Spec PyProof.Rows L2
section
variable {w : Wd} {W : WX} {X : Cx} {pos p : Pos} {x : Str}
def mRevO (i : Nat) : ME := fun ρ => match muOf i ρ with
  | some (_, .lst ds) => .ok (.lst ds.reverse, true) ρ
  | _ => .stuck
theorem pm_revO (i : Nat) {k : Nat} {p1 p2 p3 : Pos} (hK : w.K = X.K) (hN : X.N[i]? = some x := by rfl) (hv : Vis X.env.scope x := by first | exact Or.inl rfl | exact Or.inr (Or.inl rfl) | exact Or.inr (Or.inr rfl)) (hd : (x == ("__debug__" : Str)) = false := by decide)
    (hcd : (x == ("__classdict__" : Str)) = false := by decide) : PM X w W (.Subscript (.Name x p) (.Slice none none (some (.UnaryOp .USub (.Constant (.int 1) k p1) p2)) p3) pos) (mRevO i) := by
  refine ⟨_, pe_revL (pe_var hN hv hd hcd), fun F O ρ σ H Q hw R hh => ?_⟩
  subst hw
  unfold mRevO at hh
  split at hh
  · rename_i s ds q
    obtain ⟨e0, g0⟩ := muOf_some q
    obtain ⟨a, ea, oa, vs, hv, hr⟩ := R.muAt e0 g0
    refine ⟨.ref a, ea, a, vs, rfl, .inl (.inl hv), fun p hp => ?_⟩
    exact (hh.go (Step.refl _ _) R).newL hr.rev hp
  · exact hh.elim
end
end PM

/-! {}; a tuple repeated -/
namespace PM
open PySem PySem.Spec PyProof.Rows L2
section
variable {w : Wd} {W : WX} {X : Cx} {pos p : Pos} {a b : Expr} {ma mb : ME}
def mDct0 : ME := fun ρ => .ok (.dct [] [], true) ρ
theorem pm_dct0 : PM X w W (.Dict [] [] pos) mDct0 := by
  refine ⟨_, pe_dnewK, fun F O ρ σ H Q hw R hh => ?_⟩
  subst hw
  intro p hp
  have g := hh.go (Step.refl _ _) R
  exact g (.ref p) _ (Grow.new hp) ⟨p, .dct [] [], rfl, hp, rfl, [], upd_same, rfl, by simp only [List.map_nil, RepL]⟩
def repT : D → D → Option Vl
  | .tup xs, .int k => if xs ≠ [] ∧ 2 ≤ k ∧ k ≤ 1000 ∧ xs.length ≤ 1000 then some (.tup (List.replicate k.toNat xs).flatten, false) else none
  | _, _ => none
theorem RepL.rep {O : Av} {H : Hp} {ds : List D} {vs : List V} (h : RepL w O H ds vs) : ∀ n : Nat, RepL w O H (List.replicate n ds).flatten (List.replicate n vs).flatten
  | 0 => by simp [RepL]
  | n + 1 => by
    rw [List.replicate_succ, List.replicate_succ, List.flatten_cons, List.flatten_cons]
    exact RepL.append h (RepL.rep h n)
theorem o2_repT : Op2 w (rRepT w.K) repT := fun O H x y z vx vy Q dm e hx hy k => by
  cases x <;> cases y <;> simp only [repT] at e <;> first | (cases e; done) | skip
  split at e
  · rename_i xs n hf
    cases e
    simp only [Rep] at hx hy
    obtain ⟨a, vs, rfl, h1, h2⟩ := hx
    have hl := h2.length
    refine ⟨a, n, vs, rfl, hy, sq_of_rep h1, fun q => hf.1 ?_, hf.2.1, hf.2.2.1, by rw [hl]; exact hf.2.2.2, fun p hp => k.newT dm (h2.rep n.toNat) hp⟩
    rw [q] at hl
    exact List.eq_nil_of_length_eq_zero hl.symm
  · cases e
def mulT : D → D → Option Vl := orD mulD repT
theorem pm_mulT (hK : w.K = X.K) (ha : PM X w W a ma) (hb : PM X w W b mb) : PM X w W (.BinOp a .Mult b pos) (mOp2 mulT ma mb) :=
  pm_bin (op_mulW.or op_repT) (Op2.or (o2_intC (c := mulC) (fun i j => i * j) fun i j h => by unfold mulC at h; unfold CMulW; exact of_decide_eq_true h) (hK ▸ o2_repT)) ha hb
end
end PM

/-! in, not in: data of any depth in a tuple or a list -/
namespace PM
open PySem PySem.Spec PyProof.Rows L2
def rInT (K : PySem.W.Frag) (neg : Bool) : R2 := fun x y H Q => ∃ d ds, Dp K H x d ∧ (Dp K H y (.tuple ds) ∨ Dp K H y (.list ds)) ∧ SeqAt.shaped d = true ∧ PyData.canLayAll0 ds = true ∧ Q (.bl (if neg then !(ds.any fun z => PyData.eqv z d) else ds.any fun z => PyData.eqv z d)) H
def inA (neg : Bool) (x y : D) : Option Vl := (pyOk x).bind fun d => match toPy y with
  | some (.tuple ds) => if PyData.canLayAll0 ds = true then some (dB (if neg then !(ds.any fun z => PyData.eqv z d) else ds.any fun z => PyData.eqv z d)) else none
  | some (.list ds) => if PyData.canLayAll0 ds = true then some (dB (if neg then !(ds.any fun z => PyData.eqv z d) else ds.any fun z => PyData.eqv z d)) else none
  | _ => none
section
variable {w : Wd} {W : WX} {X : Cx} {pos p : Pos} {a b : Expr} {ma mb : ME}
theorem op_inT (hu : X.A.units + 65 < cLine) : OpR X (compareOp .In) (rInT X.K false) := by
  intro pins s σ H x y v u Q I rx ry h
  obtain ⟨d, ds, hd, he, sd, se, q⟩ := h
  obtain ⟨as, r1⟩ := Dp.reads I d x v hd rx
  rcases he with he | he
  · obtain ⟨bs, r2⟩ := Dp.reads I (.tuple ds) y u he ry
    exact SeqAt.in_tuple_reads r2 r1 se (SeqAt.canLay_of_shaped sd) (room_in_shaped sd hu) ⟨.bl _, H, I, rfl, q⟩
  · obtain ⟨bs, r2⟩ := Dp.reads I (.list ds) y u he ry
    exact SeqAt.in_list_reads r2 r1 se (SeqAt.canLay_of_shaped sd) (room_in_shaped sd hu) ⟨.bl _, H, I, rfl, q⟩
theorem op_notInT (hu : X.A.units + 65 < cLine) : OpR X (compareOp .NotIn) (rInT X.K true) := by
  intro pins s σ H x y v u Q I rx ry h
  obtain ⟨d, ds, hd, he, sd, se, q⟩ := h
  obtain ⟨as, r1⟩ := Dp.reads I d x v hd rx
  rcases he with he | he
  · obtain ⟨bs, r2⟩ := Dp.reads I (.tuple ds) y u he ry
    exact SeqAt.notIn_tuple_reads r2 r1 se (SeqAt.canLay_of_shaped sd) (room_in_shaped sd hu) ⟨.bl _, H, I, rfl, q⟩
  · obtain ⟨bs, r2⟩ := Dp.reads I (.list ds) y u he ry
    exact SeqAt.notIn_list_reads r2 r1 se (SeqAt.canLay_of_shaped sd) (room_in_shaped sd hu) ⟨.bl _, H, I, rfl, q⟩
theorem o2_inA (neg : Bool) : Op2 w (rInT w.K neg) (inA neg) := fun O H x y z vx vy Q dm e hx hy k => by
  unfold inA at e
  cases q : pyOk x with
  | none => rw [q] at e; cases e
  | some d =>
    rw [q] at e
    simp only [Option.bind_some] at e
    obtain ⟨a1, a2⟩ := pyOk_some q
    split at e
    · rename_i ds q2
      split at e
      · rename_i hc
        cases e
        exact ⟨d, ds, dp_of x vx d hx a1, .inl (dp_of y vy _ hy q2), a2, hc, k.bl⟩
      · cases e
    · rename_i ds q2
      split at e
      · rename_i hc
        cases e
        exact ⟨d, ds, dp_of x vx d hx a1, .inr (dp_of y vy _ hy q2), a2, hc, k.bl⟩
      · cases e
    · cases e
theorem room65 {k : Nat} {A : Around} (hr : Room k A) : A.units + 65 < cLine := by have := hr.un; omega
theorem pm_inA {k : Nat} (hK : w.K = X.K) (hr : Room k X.A) (ha : PM X w W a ma) (hb : PM X w W b mb) (hm : behindInMarks .In b = false := by rfl) : PM X w W (.Compare a [.In] [b] pos) (mOp2 (inA false) ma mb) := pm_cmp (op_inT (room65 hr)) (hK ▸ o2_inA false) ha hb hm
theorem pm_notInA {k : Nat} (hK : w.K = X.K) (hr : Room k X.A) (ha : PM X w W a ma) (hb : PM X w W b mb) (hm : behindInMarks .NotIn b = false := by rfl) : PM X w W (.Compare a [.NotIn] [b] pos) (mOp2 (inA true) ma mb) := pm_cmp (op_notInT (room65 hr)) (hK ▸ o2_inA true) ha hb hm
theorem pmt_inA {k : Nat} (hK : w.K = X.K) (hr : Room k X.A) (ha : PM X w W a ma) (hb : PM X w W b mb) (hm : behindInMarks .In b = false := by rfl) : PMT X w W (.Compare a [.In] [b] pos) (mTest (mOp2 (inA false) ma mb)) := pmt_cmp (op_inT (room65 hr)) (hK ▸ o2_inA false) ha hb hm
theorem pmt_notInA {k : Nat} (hK : w.K = X.K) (hr : Room k X.A) (ha : PM X w W a ma) (hb : PM X w W b mb) (hm : behindInMarks .NotIn b = false := by rfl) : PMT X w W (.Compare a [.NotIn] [b] pos) (mTest (mOp2 (inA true) ma mb)) := pmt_cmp (op_notInT (room65 hr)) (hK ▸ o2_inA true) ha hb hm
end
end PM

/-! ==, != of tuples whose items' comparison may run code: with either answer -/
namespace PM
open PySem PySem.Spec PyProof.Rows L2
open AutoSeq1 (wpAny_loadPart')
open GQ
section
variable {prog : Program} {wo : World} {A : Around} {R : Result → Shared → Prop}
theorem tup_eqB (l b : Addr) (xs ys : Array Value) (n n2 : Nat) (dd dd2 : Option Addr) (sl sl2 : Array (Option Value)) (e : Nat → Bool) (I : Nat → Shared → Prop)
    (turn : ∀ i (h1 : i < xs.size) (h2 : i < ys.size) s, I i s → wpAny (model prog wo) A.in1 (eqBool xs[i] ys[i]) (fun r s' => r = e i ∧ I (i + 1) s') (fun er s' => R (.error er) s') s)
    (fin : ∀ i s, I i s → R (.ok (.ret (.bool ((List.range (min xs.size ys.size)).all e && xs.size == ys.size)))) s) {s : Shared} (hl1 : s.heap.get? l = some { cls := .type "tuple", dict := dd, data := .seq xs n, slots := sl }) (hb1 : s.heap.get? b = some { cls := .type "tuple", dict := dd2, data := .seq ys n2, slots := sl2 }) (h : I 0 s) :
    wpAny (model prog wo) A.in1 (Builtin.«tuple.__eq__» ⟨[.ref l, .ref b], []⟩) (FinOf prog wo A R) (fun er s' => R (.error er) s') s := by
  have f2 := AutoSeq1.sub_tuple_tuple
  have hZ : (xs.toList.zip ys.toList).length = min xs.size ys.size := by simp
  have h0 := h
  obtain ⟨hp, g, d, tk, os⟩ := s
  wp_walk using wpAny_loadPart' hl1, wpAny_loadPart' hb1, wpAny_forIn_list _ (fun rest b s' => b.1 = none ∧ ∃ i, rest = (xs.toList.zip ys.toList).drop i ∧ i ≤ min xs.size ys.size ∧ (∀ j, j < i → e j = true) ∧ I i s') _
  case turn =>
    rintro ⟨y, x⟩ rest b s' ⟨hb', i, hz, hi, he, hI⟩
    have hlt : i < (xs.toList.zip ys.toList).length := by
      rcases Nat.lt_or_ge i (xs.toList.zip ys.toList).length with h' | h'
      · exact h'
      · rw [List.drop_of_length_le h'] at hz; cases hz
    have h1 : i < xs.size := by omega
    have h2 : i < ys.size := by omega
    rw [List.drop_eq_getElem_cons hlt] at hz
    injection hz with hyx hrest
    have hy : y = xs[i] := by have := congrArg Prod.fst hyx; simpa using this
    have hx : x = ys[i] := by have := congrArg Prod.snd hyx; simpa using this
    subst hy hx
    refine wpAny_bind (wpAny_mono (turn i h1 h2 s' hI) (fun r s2 q2 => ?_) fun _ _ x => x)
    obtain ⟨hr, q2⟩ := q2
    subst hr
    cases q : e i with
    | true =>
      wp_walk
      exact ⟨rfl, i + 1, hrest, by omega, fun j hj => by rcases Nat.lt_or_ge j i with z | z; exact he j z; rw [show j = i by omega]; exact q, q2⟩
    | false =>
      wp_walk
      have z : ((List.range (min xs.size ys.size)).all e && xs.size == ys.size) = false := by
        rw [Bool.and_eq_false_iff]
        exact .inl (List.all_eq_false.mpr ⟨i, by simp; omega, by simp [q]⟩)
      have := fin (i + 1) s2 q2
      rw [z] at this
      exact this
  case fin =>
    rintro ⟨b1, b2⟩ s' ⟨hb', i, hz, hi, he, hI⟩
    simp only at hb'
    subst hb'
    have hge : min xs.size ys.size ≤ i := by
      rcases Nat.lt_or_ge i (xs.toList.zip ys.toList).length with h' | h'
      · rw [List.drop_eq_getElem_cons h'] at hz; cases hz
      · exact hZ ▸ h'
    have hR := fin i s' hI
    have ha : (List.range (min xs.size ys.size)).all e = true := List.all_eq_true.mpr fun j hj => he j (by have := List.mem_range.mp hj; omega)
    rw [ha, Bool.true_and] at hR
    wp_walk
    simpa [Builtin.Tuple.tupleCompareSizes] using hR
  case h =>
    exact ⟨rfl, 0, rfl, Nat.zero_le _, fun j hj => absurd hj (Nat.not_lt_zero _), h0⟩
theorem tup_neB (l b : Addr) (xs ys : Array Value) (n n2 : Nat) (dd dd2 : Option Addr) (sl sl2 : Array (Option Value)) (e : Nat → Bool) (I : Nat → Shared → Prop)
    (turn : ∀ i (h1 : i < xs.size) (h2 : i < ys.size) s, I i s → wpAny (model prog wo) A.in1 (eqBool xs[i] ys[i]) (fun r s' => r = e i ∧ I (i + 1) s') (fun er s' => R (.error er) s') s)
    (fin : ∀ i s, I i s → R (.ok (.ret (.bool (!((List.range (min xs.size ys.size)).all e && xs.size == ys.size))))) s) {s : Shared} (hl1 : s.heap.get? l = some { cls := .type "tuple", dict := dd, data := .seq xs n, slots := sl }) (hb1 : s.heap.get? b = some { cls := .type "tuple", dict := dd2, data := .seq ys n2, slots := sl2 }) (h : I 0 s) :
    wpAny (model prog wo) A.in1 (Builtin.«tuple.__ne__» ⟨[.ref l, .ref b], []⟩) (FinOf prog wo A R) (fun er s' => R (.error er) s') s := by
  have f2 := AutoSeq1.sub_tuple_tuple
  have hZ : (xs.toList.zip ys.toList).length = min xs.size ys.size := by simp
  have h0 := h
  obtain ⟨hp, g, d, tk, os⟩ := s
  wp_walk using wpAny_loadPart' hl1, wpAny_loadPart' hb1, wpAny_forIn_list _ (fun rest b s' => b.1 = none ∧ ∃ i, rest = (xs.toList.zip ys.toList).drop i ∧ i ≤ min xs.size ys.size ∧ (∀ j, j < i → e j = true) ∧ I i s') _
  case turn =>
    rintro ⟨y, x⟩ rest b s' ⟨hb', i, hz, hi, he, hI⟩
    have hlt : i < (xs.toList.zip ys.toList).length := by
      rcases Nat.lt_or_ge i (xs.toList.zip ys.toList).length with h' | h'
      · exact h'
      · rw [List.drop_of_length_le h'] at hz; cases hz
    have h1 : i < xs.size := by omega
    have h2 : i < ys.size := by omega
    rw [List.drop_eq_getElem_cons hlt] at hz
    injection hz with hyx hrest
    have hy : y = xs[i] := by have := congrArg Prod.fst hyx; simpa using this
    have hx : x = ys[i] := by have := congrArg Prod.snd hyx; simpa using this
    subst hy hx
    refine wpAny_bind (wpAny_mono (turn i h1 h2 s' hI) (fun r s2 q2 => ?_) fun _ _ x => x)
    obtain ⟨hr, q2⟩ := q2
    subst hr
    cases q : e i with
    | true =>
      wp_walk
      exact ⟨rfl, i + 1, hrest, by omega, fun j hj => by rcases Nat.lt_or_ge j i with z | z; exact he j z; rw [show j = i by omega]; exact q, q2⟩
    | false =>
      wp_walk
      have z : ((List.range (min xs.size ys.size)).all e && xs.size == ys.size) = false := by
        rw [Bool.and_eq_false_iff]
        exact .inl (List.all_eq_false.mpr ⟨i, by simp; omega, by simp [q]⟩)
      have := fin (i + 1) s2 q2
      rw [z, Bool.not_false] at this
      exact this
  case fin =>
    rintro ⟨b1, b2⟩ s' ⟨hb', i, hz, hi, he, hI⟩
    simp only at hb'
    subst hb'
    have hge : min xs.size ys.size ≤ i := by
      rcases Nat.lt_or_ge i (xs.toList.zip ys.toList).length with h' | h'
      · rw [List.drop_eq_getElem_cons h'] at hz; cases hz
      · exact hZ ▸ h'
    have hR := fin i s' hI
    have ha : (List.range (min xs.size ys.size)).all e = true := List.all_eq_true.mpr fun j hj => he j (by have := List.mem_range.mp hj; omega)
    rw [ha, Bool.true_and] at hR
    wp_walk
    exact hR
  case h =>
    exact ⟨rfl, 0, rfl, Nat.zero_le _, fun j hj => absurd hj (Nat.not_lt_zero _), h0⟩
end
end PM

/-! ==, != of tuples and lists that hold instances: where all items are equal -/
namespace PM
open PySem PySem.Spec PyProof.Rows L2
def bot : Av := fun _ => False
theorem ext_step {H H' : Hp} (e : Ext H H') : Step bot H bot H' := ⟨fun _ h => h.elim, fun a o _ h => e a o h, fun a h => by
  cases q : H a with
  | none => exact absurd q h
  | some o => rw [e a o q]; simp⟩
theorem bot_step {O : Av} {H : Hp} : Step O H bot H := ⟨fun _ h => h.elim, fun _ _ _ h => h, fun _ h => h⟩
def eqF : D → D → Bool
  | .non, .non => true
  | .bl a, .bl b => a == b
  | .int i, .int j => i == j
  | .str x, .str y => x == y
  | _, _ => false
def isTr : Option Vl → Bool
  | some (.bl true, false) => true
  | _ => false
def eqXL (r : D → D → Bool) : List D → List D → Bool
  | [], [] => true
  | x :: xs, y :: ys => r x y && eqXL r xs ys
  | _, _ => false
def eqX (c : Nat) (f : Fn) : Nat → D → D → Bool
  | 0, x, y => eqF x y
  | n + 1, .tup xs, .tup ys => eqXL (eqX c f n) xs ys
  | n + 1, .lst xs, .lst ys => eqXL (eqX c f n) xs ys
  | _ + 1, .obj c' fs, .obj c'' gs => c' == c && c'' == c && isTr (fnN f [.obj c' fs, .obj c'' gs])
  | _ + 1, x, y => eqF x y
theorem isTr_some {o : Option Vl} (h : isTr o = true) : o = some (.bl true, false) := by
  unfold isTr at h
  split at h
  · rfl
  · cases h
def DX (w : Wd) (c : Nat) (f : Fn) (n : Nat) : Eqv := fun x y H => ∃ d e, Rep w bot H d x ∧ Rep w bot H e y ∧ eqX c f n d e = true
theorem mon_X {w : Wd} {c : Nat} {f : Fn} {n : Nat} : Mon (DX w c f n) := fun x y H H' e d => by
  obtain ⟨a, b, h1, h2, h3⟩ := d
  exact ⟨a, b, Rep.step (ext_step e) a x h1, Rep.step (ext_step e) b y h2, h3⟩
theorem flat_X {w : Wd} {H : Hp} {d e : D} {x y : V} (h1 : Rep w bot H d x) (h2 : Rep w bot H e y) (h : eqF d e = true) : DFlat x y H := by
  unfold eqF at h
  split at h
  · simp only [Rep] at h1 h2; subst h1; subst h2; exact ⟨rfl, rfl, rfl⟩
  · simp only [Rep] at h1 h2; subst h1; subst h2; exact ⟨rfl, rfl, h⟩
  · simp only [Rep] at h1 h2; subst h1; subst h2; exact ⟨rfl, rfl, h⟩
  · simp only [Rep] at h1 h2; subst h1; subst h2; exact ⟨rfl, rfl, h⟩
  · cases h
theorem prs_X {w : Wd} {c : Nat} {f : Fn} {n : Nat} {H : Hp} : ∀ (ds es : List D) (xs ys : List V), RepL w bot H ds xs → RepL w bot H es ys → eqXL (eqX c f n) ds es = true → Prs (DX w c f n) xs ys H
  | [], [], xs, ys, h1, h2, _ => by
    simp only [RepL] at h1 h2
    subst h1; subst h2
    exact .nil
  | d :: ds, e :: es, xs, ys, h1, h2, h => by
    simp only [RepL] at h1 h2
    obtain ⟨x, xs', rfl, a1, a2⟩ := h1
    obtain ⟨y, ys', rfl, b1, b2⟩ := h2
    simp only [eqXL, Bool.and_eq_true] at h
    exact .cons ⟨d, e, a1, b1, h.1⟩ (prs_X ds es xs' ys' a2 b2 h.2)
  | [], _ :: _, _, _, _, _, h => by cases h
  | _ :: _, [], _, _, _, _, h => by cases h
/-- two instances with the text's own == -/
def DSl (w : Wd) (c : Nat) (f : Fn) : Eqv := fun x y H => ∃ fs gs, Rep w bot H (.obj c fs) x ∧ Rep w bot H (.obj c gs) y ∧ fnN f [.obj c fs, .obj c gs] = some (.bl true, false)
section
variable {X : Cx} {w : Wd} {c j : Nat} {g : Addr} {fn : Fn}
theorem rcG_sl (hK : w.K = X.K) (hp : EqOk w c g) (F : MthOk X.prog X.w X.K X.mg X.base w g 2 j fn) : RcG X j (DSl w c fn) := by
  intro A pins s σ H x y u v sb I rx ry d
  obtain ⟨fs, gs, h1, h2, e⟩ := d
  obtain ⟨a, dx, vs, rfl, s1, _⟩ := slt_of h1
  obtain ⟨b, dy, us, rfl, s2, _⟩ := slt_of h2
  cases rx
  cases ry
  obtain ⟨sl, od, _, J, _⟩ := SlX.slt_inst I s1
  obtain ⟨sl', od', _, J', _⟩ := SlX.slt_inst I s2
  obtain ⟨m, hF⟩ := I.fr
  refine PySem.W.cmp_K (op := .Eq) (tb := .ref (w.cl c)) sb.room.units0 hF I.ok.mod.kin J J'.type (by simp [PySem.W.notFirst]) (hK ▸ hp.at_) (hK ▸ hp.fn) ?_
  have e0 : Env0 X.prog X.w X.K X.mg X.base A X.stack s H := by
    have e := I.env0
    exact ⟨by rw [sb.fr]; exact e.frames, e.mod, e.bs, e.bsz, e.funs, e.frf, e.hok, e.bare⟩
  have hsp : spOf w 2 fn [.ref a, .ref b] H (fun v H' => v = .bl true ∧ Ext H H') E0 := by
    refine sp_of (O := bot) (fun _ h => h.elim) rfl e ?_ fun v H' gr gv => ⟨rep_bl (w := w) (O := bot) (H := H') gv, gr⟩
    simp only [RepL]
    exact ⟨_, _, rfl, h1, _, _, rfl, h2, rfl⟩
  refine wpAny_mono (wpAny_call (SlX.run_at (us := [.ref a, .ref b]) (ws := [.ref a, .ref b]) F sb.room e0 pass0 I (.cons rfl (.cons rfl .nil)) hsp)) (fun q s' z => ?_) fun _ _ x => x
  obtain ⟨z', H', I', rz, ez, ex⟩ := z
  subst ez
  cases rz
  exact ⟨rfl, H', I', ex⟩
theorem eqG_sl (hK : w.K = X.K) (hp : EqOk w c g) (F : MthOk X.prog X.w X.K X.mg X.base w g 2 j fn) : EqG X j (DSl w c fn) := (rcG_sl hK hp F).eqG fun x y H d => by
  obtain ⟨fs, gs, h1, h2, _⟩ := d
  obtain ⟨a, _, _, rfl, _⟩ := slt_of h1
  obtain ⟨b, _, _, rfl, _⟩ := slt_of h2
  exact ⟨a, b, rfl, rfl⟩
theorem split_X {n : Nat} {x y : V} {H : Hp} (d : DX w c fn (n + 1) x y H) : DFlat x y H ∨ DTup w.K (DX w c fn n) x y H ∨ DList (DX w c fn n) x y H ∨ DSl w c fn x y H := by
  obtain ⟨d, e, h1, h2, h⟩ := d
  unfold eqX at h
  split at h
  · cases ‹_ + 1 = 0›
  · rename_i n' ds es q
    cases q
    simp only [Rep] at h1 h2
    obtain ⟨a, vs, rfl, a1, a2⟩ := h1
    obtain ⟨b, us, rfl, b1, b2⟩ := h2
    exact .inr (.inl ⟨a, b, vs, us, rfl, rfl, sq_of_rep a1, sq_of_rep b1, prs_X ds es vs us a2 b2 h⟩)
  · rename_i n' ds es q
    cases q
    simp only [Rep] at h1 h2
    obtain ⟨a, vs, rfl, a1, a2⟩ := h1
    obtain ⟨b, us, rfl, b1, b2⟩ := h2
    exact .inr (.inr (.inl ⟨a, b, vs, us, rfl, rfl, a1.2, b1.2, prs_X ds es vs us a2 b2 h⟩))
  · rename_i n' c1 fs c2 gs q
    simp only [Bool.and_eq_true, beq_iff_eq] at h
    obtain ⟨⟨e1, e2⟩, e3⟩ := h
    subst e1
    subst e2
    exact .inr (.inr (.inr ⟨fs, gs, h1, h2, isTr_some e3⟩))
  · exact .inl (flat_X h1 h2 h)
theorem eqG_X (hK : w.K = X.K) (hp : EqOk w c g) (F : MthOk X.prog X.w X.K X.mg X.base w g 2 j fn) : ∀ n, EqG X (j + n) (DX w c fn n)
  | 0 => (eqG_flat.imp fun x y H d => by obtain ⟨a, b, h1, h2, h3⟩ := d; exact flat_X h1 h2 (by simpa only [eqX] using h3)).mono (Nat.zero_le _)
  | n + 1 => by
    have ih := eqG_X hK hp F n
    have t : EqG X (j + (n + 1)) (DTup w.K (DX w c fn n)) := hK ▸ eqG_tup mon_X ih
    have l : EqG X (j + (n + 1)) (DList (DX w c fn n)) := eqG_list mon_X ih
    have s : EqG X (j + (n + 1)) (DSl w c fn) := (eqG_sl hK hp F).mono (by omega)
    have f : EqG X (j + (n + 1)) DFlat := eqG_flat.mono (Nat.zero_le _)
    exact (f.or (t.or (l.or s))).imp fun x y H d => split_X d
/-- at the top: a tuple or a list -/
def eqXT (c : Nat) (f : Fn) (n : Nat) : D → D → Bool
  | .tup xs, .tup ys => eqXL (eqX c f n) xs ys
  | .lst xs, .lst ys => eqXL (eqX c f n) xs ys
  | _, _ => false
def eqXT' (c : Nat) (f : Fn) (n : Nat) : D → D → Bool
  | .tup xs, .tup ys => eqXL (eqX c f n) xs ys
  | _, _ => false
def eqXD (c : Nat) (f : Fn) (n : Nat) (x y : D) : Option Vl := if eqXT c f n x y = true then some (dB true) else none
def neXD (c : Nat) (f : Fn) (n : Nat) (x y : D) : Option Vl := if eqXT' c f n x y = true then some (dB false) else none
def DXT (w : Wd) (c : Nat) (f : Fn) (n : Nat) : Eqv := fun x y H => DTup w.K (DX w c f n) x y H ∨ DList (DX w c f n) x y H
theorem rcG_X (hK : w.K = X.K) (hp : EqOk w c g) (F : MthOk X.prog X.w X.K X.mg X.base w g 2 j fn) (n : Nat) : RcG X (j + n + 1) (DXT w c fn n) := by
  intro A pins s σ H x y u v sb I rx ry d
  rcases d with d | d
  · exact rcG_tup (n := j + n) mon_X (eqG_X hK hp F n) A pins s σ H x y u v sb I rx ry (hK ▸ d)
  · exact rcG_list (n := j + n) mon_X (eqG_X hK hp F n) A pins s σ H x y u v sb I rx ry d
theorem o2_eqX (n : Nat) : Op2 w (rEqG (DXT w c fn n)) (eqXD c fn n) := fun O H x y z vx vy Q dm e hx hy k => by
  unfold eqXD at e
  split at e
  · rename_i q
    cases e
    have h1 := Rep.step (bot_step (O := O)) x vx hx
    have h2 := Rep.step (bot_step (O := O)) y vy hy
    refine ⟨?_, fun H' ex => k _ H' ex (by simp only [GoAt, dB, Rep])⟩
    unfold eqXT at q
    split at q
    · simp only [Rep] at h1 h2
      obtain ⟨a, vs, rfl, a1, a2⟩ := h1
      obtain ⟨b, us, rfl, b1, b2⟩ := h2
      exact .inl ⟨a, b, vs, us, rfl, rfl, sq_of_rep a1, sq_of_rep b1, prs_X _ _ vs us a2 b2 q⟩
    · simp only [Rep] at h1 h2
      obtain ⟨a, vs, rfl, a1, a2⟩ := h1
      obtain ⟨b, us, rfl, b1, b2⟩ := h2
      exact .inr ⟨a, b, vs, us, rfl, rfl, a1.2, b1.2, prs_X _ _ vs us a2 b2 q⟩
    · cases q
  · cases e
/-- x != y of tuples -/
def rNeG (D : Eqv) : R2 := fun x y H Q => D x y H ∧ ∀ H', Ext H H' → Q (.bl false) H'
theorem op_neG {D : Eqv} {n : Nat} (hD : Mon D) (h : EqG X n D) (hr : Room (n + 1) X.A) : OpR X (compareOp .NotEq) (rNeG (DTup X.K D)) := by
  intro pins s σ H x y v u Q I rx ry hq
  obtain ⟨d, q⟩ := hq
  obtain ⟨a, b, xs, ys, rfl, rfl, ha, hb, p⟩ := d
  cases rx
  cases ry
  obtain ⟨its, r, e, z⟩ := I.tuple ha
  obtain ⟨its2, r2, e2, z2⟩ := I.tuple hb
  have hsz : its.toArray.size = its2.toArray.size := by rw [List.size_toArray, List.size_toArray, ← r.length, ← r2.length]; exact p.1
  obtain ⟨⟨cls, dd, data, sl⟩, ho, hc, k, hd⟩ := id e
  obtain ⟨⟨cls2, dd2, data2, sl2⟩, ho2, hc2, k2, hd2⟩ := id e2
  simp only at hc hd hc2 hd2
  subst hc hd hc2 hd2
  show wpAny _ _ (richCompare .NotEq _ _) _ _ _
  refine wpAny_richCompare_same_room (op := .NotEq) ⟨_, ho, rfl⟩ ⟨_, ho2, rfl⟩ F.slot_tuple_ne (GQ.call_here F.slot_tuple_ne ⟨_, ho, rfl⟩ F.entry_tuple_ne (F.args_tuple_ne_2 _ _) ?_) hr.units0
  refine tup_neB a b its.toArray its2.toArray k k2 dd dd2 sl sl2 (fun _ => true) (fun _ s' => LoopI X pins σ H s') (fun i h1 h2 s' q => ?_) (fun i s' q' => ?_) ho ho2 ⟨H, I, Ext.rfl'⟩
  · exact turnG hD h ⟨hr, rfl⟩ p r r2 i h1 h2 s' q
  · obtain ⟨H', I', ex⟩ := q'
    refine ⟨(fun x => nomatch x), .bl false, H', I', ?_, q H' ex⟩
    have : ((List.range (min its.toArray.size its2.toArray.size)).all (fun _ => true) && its.toArray.size == its2.toArray.size) = true := by
      rw [hsz]
      simp
    rw [this]
    rfl
theorem o2_neX (n : Nat) : Op2 w (rNeG (DTup w.K (DX w c fn n))) (neXD c fn n) := fun O H x y z vx vy Q dm e hx hy k => by
  unfold neXD at e
  split at e
  · rename_i q
    cases e
    have h1 := Rep.step (bot_step (O := O)) x vx hx
    have h2 := Rep.step (bot_step (O := O)) y vy hy
    refine ⟨?_, fun H' ex => k _ H' ex (by simp only [GoAt, dB, Rep])⟩
    unfold eqXT' at q
    split at q
    · simp only [Rep] at h1 h2
      obtain ⟨a, vs, rfl, a1, a2⟩ := h1
      obtain ⟨b, us, rfl, b1, b2⟩ := h2
      exact ⟨a, b, vs, us, rfl, rfl, sq_of_rep a1, sq_of_rep b1, prs_X _ _ vs us a2 b2 q⟩
    · cases q
  · cases e
end
section
variable {w : Wd} {W : WX} {X : Cx} {pos : Pos} {e e' : Expr} {m m' : ME} {c j : Nat} {g : Addr} {fn : Fn}
theorem pm_eqX (n : Nat) (hK : w.K = X.K) (hp : EqOk w c g) (F : MthOk X.prog X.w X.K X.mg X.base w g 2 j fn) (hr : Room (j + n + 1) X.A) (ha : PM X w W e m) (hb : PM X w W e' m') : PM X w W (.Compare e [.Eq] [e'] pos) (mOp2 (orD eqD (eqXD c fn n)) m m') :=
  pm_cmp ((op_eqD hr.units).or (op_eqG (rcG_X hK hp F n) hr)) (Op2.or (hK ▸ o2_eqD) (o2_eqX n)) ha hb (nomark _)
theorem pmt_eqX (n : Nat) (hK : w.K = X.K) (hp : EqOk w c g) (F : MthOk X.prog X.w X.K X.mg X.base w g 2 j fn) (hr : Room (j + n + 1) X.A) (ha : PM X w W e m) (hb : PM X w W e' m') : PMT X w W (.Compare e [.Eq] [e'] pos) (mTest (mOp2 (orD eqD (eqXD c fn n)) m m')) :=
  pmt_cmp ((op_eqD hr.units).or (op_eqG (rcG_X hK hp F n) hr)) (Op2.or (hK ▸ o2_eqD) (o2_eqX n)) ha hb (nomark _)
theorem pm_neX (n : Nat) (hK : w.K = X.K) (hp : EqOk w c g) (F : MthOk X.prog X.w X.K X.mg X.base w g 2 j fn) (hr : Room (j + n + 1) X.A) (ha : PM X w W e m) (hb : PM X w W e' m') : PM X w W (.Compare e [.NotEq] [e'] pos) (mOp2 (orD neD (neXD c fn n)) m m') :=
  pm_cmp ((op_neD hr.units).or (op_neG (n := j + n) mon_X (eqG_X hK hp F n) hr)) (Op2.or (hK ▸ o2_neD) (hK ▸ o2_neX n)) ha hb (nomark _)
theorem pmt_neX (n : Nat) (hK : w.K = X.K) (hp : EqOk w c g) (F : MthOk X.prog X.w X.K X.mg X.base w g 2 j fn) (hr : Room (j + n + 1) X.A) (ha : PM X w W e m) (hb : PM X w W e' m') : PMT X w W (.Compare e [.NotEq] [e'] pos) (mTest (mOp2 (orD neD (neXD c fn n)) m m')) :=
  pmt_cmp ((op_neD hr.units).or (op_neG (n := j + n) mon_X (eqG_X hK hp F n) hr)) (Op2.or (hK ▸ o2_neD) (hK ▸ o2_neX n)) ha hb (nomark _)
end
end PM

namespace PM.G
open PySem PySem.Spec L2 PM
def ix_own_leaves : Nat → Option Nat
  | 0 => some 0
  | _ => none
def ix_own_many : Nat → Option Nat
  | 0 => some 1
  | _ => none
def ix_own_parts : Nat → Option Nat
  | 0 => some 2
  | _ => none
def ix_own_size : Nat → Option Nat
  | 0 => some 3
  | _ => none
def ix_own_text : Nat → Option Nat
  | 0 => some 4
  | _ => none
def ix_word : Nat → Option Nat
  | 0 => some 5
  | _ => none
def ans_Building : Ty → Option Bool
  | .b "NoneType" => some false
  | .b "bool" => some false
  | .b "int" => some false
  | .b "str" => some false
  | .b "tuple" => some false
  | .b "list" => some false
  | .b "dict" => some false
  | .o 0 => some true
  | _ => none
def ans_bool : Ty → Option Bool
  | .b "NoneType" => some false
  | .b "bool" => some true
  | .b "int" => some false
  | .b "str" => some false
  | .b "tuple" => some false
  | .b "list" => some false
  | .b "dict" => some false
  | .o 0 => some false
  | _ => none
def ans_int : Ty → Option Bool
  | .b "NoneType" => some false
  | .b "bool" => some true
  | .b "int" => some true
  | .b "str" => some false
  | .b "tuple" => some false
  | .b "list" => some false
  | .b "dict" => some false
  | .o 0 => some false
  | _ => none
def ans_str : Ty → Option Bool
  | .b "NoneType" => some false
  | .b "bool" => some false
  | .b "int" => some false
  | .b "str" => some true
  | .b "tuple" => some false
  | .b "list" => some false
  | .b "dict" => some false
  | .o 0 => some false
  | _ => none
def ans_tuple : Ty → Option Bool
  | .b "NoneType" => some false
  | .b "bool" => some false
  | .b "int" => some false
  | .b "str" => some false
  | .b "tuple" => some true
  | .b "list" => some false
  | .b "dict" => some false
  | .o 0 => some false
  | _ => none
def tab_LOST (z : Str) : Option D := if z = "row" then some (.int 1) else if z = "side" then some (.int 2) else none
def tab_SIGNS (z : Str) : Option D := if z = "row" then some (.str " + ") else if z = "side" then some (.str " | ") else none
def m_l_dice : MS :=
    (mSeq (mAsg 2 (mIf (mTest (mOp2 ltI (mVar 1) (mCall (one1 lenD) (mCons (mVar 0) mNil)))) (mCall (one1 intD) (mCons (mOp2 ixD (mVar 0) (mVar 1)) mNil)) (mOp2 addD (mOp2 mulD (mC (.int 61)) (mVar 1)) (mC (.int 17)))))
    (mSeq (mAsg 3 (mOp2 modD (mCall (two1 maxD) (mCons (mC (.int 0)) (mCons (mOp2 subD (mCall (one1 absD) (mCons (mVar 2) mNil)) (mOp2 powD (mC (.int 10)) (mC (.int 16)))) mNil))) (mOp2 mulD (mOp2 powD (mC (.int 10)) (mC (.int 60))) (mOp2 powD (mC (.int 10)) (mC (.int 60))))))
    (mRet (mLst (mCons (mVar 3) (mCons (mOp2 addD (mOp2 addD (mOp2 addD (mOp2 mulD (mOp2 modD (mCall (one1 absD) (mCons (mVar 2) mNil)) (mC (.int 1152921504606846869))) (mC (.int 43))) (mOp2 mulD (mC (.int 811)) (mVar 1))) (mOp2 mulD (mC (.int 29)) (mCall (one1 intD) (mCons (mOp2 ltI (mVar 2) (mC (.int 0))) mNil)))) (mC (.int 5))) (mCons (mC (.int 0)) mNil)))))))
def fn_l_dice : Fn := noX (fnSem 4 2 m_l_dice)
def m_l_roll : MS :=
    (mSeq (mIfS (mTest (mOp2 gtI (mItemO 0 (mC (.int 0))) (mC (.int 0)))) (mSeq (mAsg 4 (mOp2 modD (mCall (one1 intD) (mCons (mItemO 0 (mC (.int 0))) mNil)) (mVar 1)))
    (mSeq (mSetItem 0 (mC (.int 0)) (mOp2 divD (mItemO 0 (mC (.int 0))) (mVar 1)))
    (mRet (mVar 4)))) mNext)
    (mSeq (mSetItem 0 (mC (.int 2)) (mOp2 addD (mItemO 0 (mC (.int 2))) (mC (.int 1))))
    (mSeq (mAsg 2 (mOp2 modD (mCall (one1 intD) (mCons (mOp2 addD (mItemO 0 (mC (.int 1))) (mOp2 mulD (mC (.int 49979687)) (mItemO 0 (mC (.int 2))))) mNil)) (mC (.int 2305843009213693669))))
    (mSeq (mAsg 3 (mOp2 addD (mOp2 mulD (mOp2 modD (mCall (one1 intD) (mCons (mOp2 addD (mOp2 mulD (mVar 2) (mVar 2)) (mOp2 mulD (mC (.int 89)) (mItemO 0 (mC (.int 2))))) mNil)) (mC (.int 2305843009213693907))) (mC (.int 7368791))) (mVar 2)))
    (mRet (mOp2 modD (mCall (one1 intD) (mCons (mOp2 divD (mVar 3) (mC (.int 65536))) mNil)) (mVar 1)))))))
def fn_l_roll : Fn := noX (fnSem 5 2 m_l_roll)
def m_l_building (fn_l_building : Nat → Fn) (n : Nat) : MS :=
    (mSeq (mIfS (mTest (mOp2 eqD (mVar 1) (mC (.int 1)))) (mRet (mIf (mTest (mOp2 eqD (mCallD fn_l_roll 0 (mCons (mC (.int 4)) mNil)) (mC (.int 0)))) (mC (.str "gap")) (mC (.str "tie")))) mNext)
    (mSeq (mAsg 2 (mOp2 addD (mC (.int 1)) (mCallD fn_l_roll 0 (mCons (mOp2 subD (mVar 1) (mC (.int 1))) mNil))))
    (mSeq (mAsg 3 (mIf (mTest (mOp2 ltI (mCallD fn_l_roll 0 (mCons (mC (.int 5)) mNil)) (mC (.int 2)))) (mC (.str "side")) (mC (.str "row"))))
    (mRet (mTup (mCons (mVar 3) (mCons (mCallD (fn_l_building n) 0 (mCons (mVar 2) mNil)) (mCons (mCallD (fn_l_building n) 0 (mCons (mOp2 subD (mVar 1) (mVar 2)) mNil)) mNil))))))))
def fn_l_building : Nat → Fn
  | 0 => fun _ _ => .stuck
  | n + 1 => noX (fnSem 4 2 (m_l_building (fun _ => fn_l_building n) n))
def m_Building_uinitu : MS :=
    (mSeq (mSetF 0 0 5 (mVar 1))
    (mSeq (mSetF 0 0 2 (mVar 2))
    (mIfS (mTest (mOp2 eq0 (mVar 2) (mTup mNil))) (mSetFs 0 0 [4, 0, 3, 1] (mTup (mCons (mVar 1) (mCons (mTup (mCons (mVar 1) mNil)) (mCons (mC (.int 1)) (mCons (mC (.int 2)) mNil)))))) (mSeq (mAsgG (gT [(gN 3), (gN 4)]) (mVar 2))
    (mSeq (mSetF 0 0 4 (mJs [(mC (.str "(")), (mOp1 fmtD (mOp1 (fldD ix_own_text) (mVar 3))), (mOp1 fmtD (mOp1 (kdF tab_SIGNS) (mVar 1))), (mOp1 fmtD (mOp1 (fldD ix_own_text) (mVar 4))), (mC (.str ")"))] Str.empty))
    (mSeq (mSetF 0 0 0 (mTup (mStar (mOp1 (fldD ix_own_leaves) (mVar 3)) (mStar (mOp1 (fldD ix_own_leaves) (mVar 4)) mNil))))
    (mSeq (mSetF 0 0 3 (mOp2 addD (mOp1 (fldD ix_own_size) (mVar 3)) (mOp1 (fldD ix_own_size) (mVar 4))))
    (mSetF 0 0 1 (mOp2 subD (mOp2 addD (mOp1 (fldD ix_own_many) (mVar 3)) (mOp1 (fldD ix_own_many) (mVar 4))) (mOp1 (kdF tab_LOST) (mVar 1)))))))))))
def fn_Building_uinitu : Fn := noX (fnSem 5 3 m_Building_uinitu)
def m_Building_tie : MS :=
    (mRet (mMakeL 0 0 fn_Building_uinitu (mCons (mC (.str "tie")) (mCons (mTup mNil) mNil))))
def fn_Building_tie : Fn := noX (fnSem 1 1 m_Building_tie)
def m_Building_gap : MS :=
    (mRet (mMakeL 0 0 fn_Building_uinitu (mCons (mC (.str "gap")) (mCons (mTup mNil) mNil))))
def fn_Building_gap : Fn := noX (fnSem 1 1 m_Building_gap)
def m_require_leaves : MS :=
    (mIfS (mTest (mOp2 gtI (mVar 0) (mC (.int 60)))) mDead mNext)
def fn_require_leaves : Fn := noX (fnSem 1 1 m_require_leaves)
def m_joined_building : MS :=
    (mSeq (mIfS (mNot (mTest (mOp1 (isD 1 ans_Building) (mVar 2)))) mDead mNext)
    (mSeq (mExpr (mCallV fn_require_leaves (mCons (mOp2 addD (mOp1 (fldD ix_own_size) (mVar 1)) (mOp1 (fldD ix_own_size) (mVar 2))) mNil)))
    (mRet (mMake 0 fn_Building_uinitu (mCons (mVar 0) (mCons (mTup (mCons (mVar 1) (mCons (mVar 2) mNil))) mNil))))))
def fn_joined_building : Fn := noX (fnSem 3 3 m_joined_building)
def m_Building_uaddu : MS :=
    (mRet (mCallV fn_joined_building (mCons (mC (.str "row")) (mCons (mVar 0) (mCons (mVar 1) mNil)))))
def fn_Building_uaddu : Fn := noX (fnSem 2 2 m_Building_uaddu)
def m_Building_uoru : MS :=
    (mRet (mCallV fn_joined_building (mCons (mC (.str "side")) (mCons (mVar 0) (mCons (mVar 1) mNil)))))
def fn_Building_uoru : Fn := noX (fnSem 2 2 m_Building_uoru)
def m_l_built (fn_l_built : Nat → Fn) (n : Nat) : MS :=
    (mSeq (mIfS (mTest (mOp1 (isD 1 ans_str) (mVar 0))) (mRet (mIf (mTest (mOp2 eqD (mVar 0) (mC (.str "tie")))) (mCm 0 fn_Building_tie mNil) (mCm 0 fn_Building_gap mNil))) mNext)
    (mSeq (mPar 1 2 (mCons (mCallV (fn_l_built n) (mCons (mOp2 ixD (mVar 0) (mC (.int 1))) mNil)) (mCons (mCallV (fn_l_built n) (mCons (mOp2 ixD (mVar 0) (mC (.int 2))) mNil)) mNil)))
    (mRet (mIf (mTest (mOp2 eqD (mOp2 ixD (mVar 0) (mC (.int 0))) (mC (.str "row")))) (mOp2 (orD addD (objOp 0 fn_Building_uaddu)) (mVar 1) (mVar 2)) (mOp2 (objOp 0 fn_Building_uoru) (mVar 1) (mVar 2))))))
def fn_l_built : Nat → Fn
  | 0 => fun _ _ => .stuck
  | n + 1 => noX (fnSem 3 1 (m_l_built (fun _ => fn_l_built n) n))
def m_l_pick : MS :=
    (mRet (mOp2 ixD (mVar 1) (mCallD fn_l_roll 0 (mCons (mCall (one1 lenD) (mCons (mVar 1) mNil)) mNil))))
def fn_l_pick : Fn := noX (fnSem 2 2 m_l_pick)
def c_paths_below_0 (fn_paths_below : Nat → Fn) (n : Nat) : ME :=
    (mLc (mIt itL (mCallV (fn_paths_below n) (mCons (mVar 3) mNil))) [4] (gN 4) mYes (mTup (mCons (mVar 2) (mStar (mVar 4) mNil))))
def p_paths_below_1 (fn_paths_below : Nat → Fn) (n : Nat) : MS :=
    (mFor (mItA itE (mCons (mOp1 (fldD ix_own_parts) (mVar 0)) mNil)) (gT [(gN 2), (gN 3)]) (mAsg 1 (mOp2 addD (mVar 1) (c_paths_below_0 fn_paths_below n))))
def m_paths_below (fn_paths_below : Nat → Fn) (n : Nat) : MS :=
    (mSeq (mAsg 1 (mLst (mCons (mTup mNil) mNil)))
    (mSeq (p_paths_below_1 fn_paths_below n)
    (mRet (mVar 1))))
def fn_paths_below : Nat → Fn
  | 0 => fun _ _ => .stuck
  | n + 1 => noX (fnSem 5 1 (m_paths_below (fun _ => fn_paths_below n) n))
def m_Building_paths : MS :=
    (mRet (mCall (one1 tupD) (mCons (mCallV (fn_paths_below 64) (mCons (mVar 0) mNil)) mNil)))
def fn_Building_paths : Fn := noX (fnSem 1 1 m_Building_paths)
def p_l_steps_up_0 : MS :=
    (mFor (mIt itT (mVar 1)) (gN 2) (mSeq (mAsg 3 (mOp2 addD (mLst (mCons (mTup (mCons (mOp2 ixD (mVar 4) (mC (.int 0))) (mCons (mVar 2) (mCons (mOp2 ixD (mVar 4) (mOp2 subD (mC (.int 2)) (mVar 2))) mNil)))) mNil)) (mVar 3)))
    (mAsg 4 (mOp2 ixD (mVar 4) (mOp2 addD (mC (.int 1)) (mVar 2))))))
def m_l_steps_up : MS :=
    (mSeq (mPar 3 4 (mCons (mLst mNil) (mCons (mVar 0) mNil)))
    (mSeq p_l_steps_up_0
    (mRet (mVar 3))))
def fn_l_steps_up : Fn := noX (fnSem 5 2 m_l_steps_up)
def m_require_a_building : MS :=
    (mIfS (mNot (mTest (mOp1 (isD 1 ans_Building) (mVar 0)))) mDead mNext)
def fn_require_a_building : Fn := noX (fnSem 1 1 m_require_a_building)
def m_is_whole : MS :=
    (mRet (mAndV (mOp1 (isD 1 ans_int) (mVar 0)) (mNotV (mOp1 (isD 1 ans_bool) (mVar 0)))))
def fn_is_whole : Fn := noX (fnSem 1 1 m_is_whole)
def m_is_integer : MS :=
    (mRet (mAndV (mCallV fn_is_whole (mCons (mVar 0) mNil)) (mChain ltI ltI (mOp1 negD (mC (.int 1000000000000000000000000000000000000000000000000000000000000))) (mVar 0) (mC (.int 1000000000000000000000000000000000000000000000000000000000000)))))
def fn_is_integer : Fn := noX (fnSem 1 1 m_is_integer)
def m_is_count : MS :=
    (mRet (mAndV (mCallV fn_is_integer (mCons (mVar 0) mNil)) (mOp2 geI (mVar 0) (mC (.int 0)))))
def fn_is_count : Fn := noX (fnSem 1 1 m_is_count)
def p_part_at_0 : MS :=
    (mFor (mIt itT (mVar 1)) (gN 3) (mSeq (mIfS (mOr (mNot (mTest (mCallV fn_is_integer (mCons (mVar 3) mNil)))) (mNot (mTest (mChain leI ltI (mC (.int 0)) (mVar 3) (mCall (one1 lenD) (mCons (mOp1 (fldD ix_own_parts) (mVar 2)) mNil)))))) mDead mNext)
    (mAsg 2 (mOp2 ixD (mOp1 (fldD ix_own_parts) (mVar 2)) (mVar 3)))))
def m_part_at : MS :=
    (mSeq (mIfS (mNot (mTest (mOp1 (isD 1 ans_tuple) (mVar 1)))) mDead mNext)
    (mSeq (mAsg 2 (mVar 0))
    (mSeq p_part_at_0
    (mRet (mVar 2)))))
def fn_part_at : Fn := noX (fnSem 4 2 m_part_at)
def m_Building_at : MS :=
    (mRet (mCallV fn_part_at (mCons (mVar 0) (mCons (mVar 1) mNil))))
def fn_Building_at : Fn := noX (fnSem 2 2 m_Building_at)
def m_Building_parts : MS :=
    (mRet (mOp1 (fldD ix_own_parts) (mVar 0)))
def fn_Building_parts : Fn := noX (fnSem 1 1 m_Building_parts)
def c_surrounding_at_0 : ME :=
    (mLc (mIt itT (mVar 1)) [4] (gN 4) mYes (mCallV fn_is_count (mCons (mVar 4) mNil)))
def p_surrounding_at_1 : MS :=
    (mFor (mItA itE (mCons (mVar 1) mNil)) (gT [(gN 3), (gN 4)]) (mSeq (mAsg 5 (mMeth 0 fn_Building_at (mVar 0) (mCons (mSl (mVar 1) mNo (mPart (mVar 3))) mNil)))
    (mExpr (mAppend 2 (mCons (mTup (mCons (mOp1 (fldD ix_word) (mVar 5)) (mCons (mVar 4) (mCons (mOp2 ixD (mOp1 (fun x => objN 0 fn_Building_parts [x]) (mVar 5)) (mOp2 subD (mC (.int 1)) (mVar 4))) mNil)))) mNil)))))
def m_surrounding_at : MS :=
    (mSeq (mExpr (mCallV fn_require_a_building (mCons (mVar 0) mNil)))
    (mSeq (mIfS (mOr (mNot (mTest (mOp1 (isD 1 ans_tuple) (mVar 1)))) (mOr (mNot (mTest (mCall (one1 (allD false)) (mCons c_surrounding_at_0 mNil)))) (mTest (mOp2 (inA true) (mVar 1) (mOp1 (fun x => objN 0 fn_Building_paths [x]) (mVar 0)))))) mDead mNext)
    (mSeq (mAsgO 2 (mLst mNil))
    (mSeq p_surrounding_at_1
    (mRet (mCall (one1 tupD) (mCons (mRevO 2) mNil)))))))
def fn_surrounding_at : Fn := noX (fnSem 6 2 m_surrounding_at)
def c_l_steps_made_0 : ME :=
    (mLc (mIt itL (mVar 0)) [1, 2, 3] (gT [(gN 1), (gN 2), (gN 3)]) mYes (mTup (mCons (mVar 1) (mCons (mVar 2) (mCons (mCallV (fn_l_built 64) (mCons (mVar 3) mNil)) mNil)))))
def m_l_steps_made : MS :=
    (mRet (mCall (one1 tupD) (mCons c_l_steps_made_0 mNil)))
def fn_l_steps_made : Fn := noX (fnSem 4 1 m_l_steps_made)
def m_Building_uequ : MS :=
    (mRet (mAndV (mOp1 (isD 1 ans_Building) (mVar 1)) (mOp2 eqD (mOp1 (fldD ix_own_text) (mVar 0)) (mOp1 (fldD ix_own_text) (mVar 1)))))
def fn_Building_uequ : Fn := noX (fnSem 2 2 m_Building_uequ)
def m_is_step : MS :=
    (mSeq (mIfS (mOr (mNot (mTest (mOp1 (isD 1 ans_tuple) (mVar 0)))) (mTest (mOp2 neD (mCall (one1 lenD) (mCons (mVar 0) mNil)) (mC (.int 3))))) (mRet (mC (.bl false))) mNext)
    (mSeq (mAsgG (gT [(gN 1), (gN 2), (gN 3)]) (mVar 0))
    (mSeq (mIfS (mOr (mNot (mTest (mOp1 (isD 1 ans_str) (mVar 1)))) (mOr (mTest (mOp2 (inA true) (mVar 1) (mTup (mCons (mC (.str "row")) (mCons (mC (.str "side")) mNil))))) (mOr (mNot (mTest (mCallV fn_is_count (mCons (mVar 2) mNil)))) (mTest (mOp2 gtI (mVar 2) (mC (.int 1))))))) (mRet (mC (.bl false))) mNext)
    (mRet (mOp1 (isD 1 ans_Building) (mVar 3))))))
def fn_is_step : Fn := noX (fnSem 4 1 m_is_step)
def c_is_surrounding_0 : ME :=
    (mLc (mIt itT (mVar 0)) [1] (gN 1) mYes (mCallV fn_is_step (mCons (mVar 1) mNil)))
def m_is_surrounding : MS :=
    (mRet (mAndV (mOp1 (isD 1 ans_tuple) (mVar 0)) (mAndV (mOp2 leI (mCall (one1 lenD) (mCons (mVar 0) mNil)) (mC (.int 60))) (mCall (one1 (allD false)) (mCons c_is_surrounding_0 mNil)))))
def fn_is_surrounding : Fn := noX (fnSem 2 1 m_is_surrounding)
def m_require_surrounding : MS :=
    (mIfS (mNot (mTest (mCallV fn_is_surrounding (mCons (mVar 0) mNil)))) mDead mNext)
def fn_require_surrounding : Fn := noX (fnSem 1 1 m_require_surrounding)
def m_step_taken : MS :=
    (mSeq (mAsgG (gT [(gN 2), (gN 3), (gN 4)]) (mVar 0))
    (mSeq (mAsgG (gT [(gN 5), (gN 6)]) (mIf (mTest (mOp2 eqD (mVar 3) (mC (.int 0)))) (mTup (mCons (mVar 1) (mCons (mVar 4) mNil))) (mTup (mCons (mVar 4) (mCons (mVar 1) mNil)))))
    (mRet (mIf (mTest (mOp2 eqD (mVar 2) (mC (.str "row")))) (mOp2 (orD addD (objOp 0 fn_Building_uaddu)) (mVar 5) (mVar 6)) (mOp2 (objOp 0 fn_Building_uoru) (mVar 5) (mVar 6))))))
def fn_step_taken : Fn := noX (fnSem 7 2 m_step_taken)
def p_put_into_0 : MS :=
    (mFor (mIt itT (mVar 0)) (gN 2) (mAsg 1 (mCallV fn_step_taken (mCons (mVar 2) (mCons (mVar 1) mNil)))))
def m_put_into : MS :=
    (mSeq (mExpr (mCallV fn_require_surrounding (mCons (mVar 0) mNil)))
    (mSeq (mExpr (mCallV fn_require_a_building (mCons (mVar 1) mNil)))
    (mSeq p_put_into_0
    (mRet (mVar 1)))))
def fn_put_into : Fn := noX (fnSem 3 2 m_put_into)
def m_require_building : MS :=
    (mIfS (mNot (mTest (mOp1 (isD 1 ans_Building) (mVar 0)))) mDead mNext)
def fn_require_building : Fn := noX (fnSem 1 1 m_require_building)
def m_with_part (fn_with_part : Nat → Fn) (n : Nat) : MS :=
    (mSeq (mIfS (mTest (mOp2 eq0 (mVar 1) (mTup mNil))) (mRet (mVar 2)) mNext)
    (mSeq (mAsgG (gT [(gN 3), (gN 4)]) (mOp1 (fldD ix_own_parts) (mVar 0)))
    (mSeq (mIfS (mTest (mOp2 eqD (mOp2 ixD (mVar 1) (mC (.int 0))) (mC (.int 0)))) (mRet (mMake 0 fn_Building_uinitu (mCons (mOp1 (fldD ix_word) (mVar 0)) (mCons (mTup (mCons (mCallV (fn_with_part n) (mCons (mVar 3) (mCons (mSl (mVar 1) (mPart (mC (.int 1))) mNo) (mCons (mVar 2) mNil)))) (mCons (mVar 4) mNil))) mNil)))) mNext)
    (mRet (mMake 0 fn_Building_uinitu (mCons (mOp1 (fldD ix_word) (mVar 0)) (mCons (mTup (mCons (mVar 3) (mCons (mCallV (fn_with_part n) (mCons (mVar 4) (mCons (mSl (mVar 1) (mPart (mC (.int 1))) mNo) (mCons (mVar 2) mNil)))) mNil))) mNil)))))))
def fn_with_part : Nat → Fn
  | 0 => fun _ _ => .stuck
  | n + 1 => noX (fnSem 5 3 (m_with_part (fun _ => fn_with_part n) n))
def m_Building_put : MS :=
    (mSeq (mAsg 3 (mCallV fn_part_at (mCons (mVar 0) (mCons (mVar 1) mNil))))
    (mSeq (mExpr (mCallV fn_require_building (mCons (mVar 2) mNil)))
    (mSeq (mExpr (mCallV fn_require_leaves (mCons (mOp2 addD (mOp2 subD (mOp1 (fldD ix_own_size) (mVar 0)) (mOp1 (fldD ix_own_size) (mVar 3))) (mOp1 (fldD ix_own_size) (mVar 2))) mNil)))
    (mRet (mCallV (fn_with_part 64) (mCons (mVar 0) (mCons (mVar 1) (mCons (mVar 2) mNil))))))))
def fn_Building_put : Fn := noX (fnSem 4 3 m_Building_put)
def p_l_steps_0 : MS :=
    (mFor (mItA rng1 (mCons (mCallD fn_l_roll 0 (mCons (mOp2 addD (mVar 1) (mC (.int 1))) mNil)) mNil)) (gN 4) (mSeq (mAsg 5 (mCallD fn_l_pick 0 (mCons (mLst (mCons (mC (.str "row")) (mCons (mC (.str "side")) mNil))) mNil)))
    (mExpr (mAppend 3 (mCons (mTup (mCons (mVar 5) (mCons (mCallD fn_l_roll 0 (mCons (mC (.int 2)) mNil)) (mCons (mCallD (fn_l_building 64) 0 (mCons (mOp2 addD (mC (.int 1)) (mCallD fn_l_roll 0 (mCons (mVar 2) mNil))) mNil)) mNil)))) mNil)))))
def m_l_steps : MS :=
    (mSeq (mAsgO 3 (mLst mNil))
    (mSeq p_l_steps_0
    (mRetO 3)))
def fn_l_steps : Fn := noX (fnSem 6 3 m_l_steps)
def m_Building_text : MS :=
    (mRet (mOp1 (fldD ix_own_text) (mVar 0)))
def fn_Building_text : Fn := noX (fnSem 1 1 m_Building_text)
def m_l_text (fn_l_text : Nat → Fn) (n : Nat) : MS :=
    (mSeq (mIfS (mTest (mOp1 (isD 1 ans_str) (mVar 0))) (mRet (mVar 0)) mNext)
    (mRet (mOp2 addD (mOp2 addD (mOp2 addD (mOp2 addD (mC (.str "(")) (mCallV (fn_l_text n) (mCons (mOp2 ixD (mVar 0) (mC (.int 1))) mNil))) (mIf (mTest (mOp2 eqD (mOp2 ixD (mVar 0) (mC (.int 0))) (mC (.str "row")))) (mC (.str " + ")) (mC (.str " | ")))) (mCallV (fn_l_text n) (mCons (mOp2 ixD (mVar 0) (mC (.int 2))) mNil))) (mC (.str ")")))))
def fn_l_text : Nat → Fn
  | 0 => fun _ _ => .stuck
  | n + 1 => noX (fnSem 1 1 (m_l_text (fun _ => fn_l_text n) n))
def p_l_put_0 : MS :=
    (mFor (mIt itL (mVar 0)) (gT [(gN 2), (gN 3), (gN 4)]) (mAsg 1 (mIf (mTest (mOp2 eqD (mVar 3) (mC (.int 0)))) (mTup (mCons (mVar 2) (mCons (mVar 1) (mCons (mVar 4) mNil)))) (mTup (mCons (mVar 2) (mCons (mVar 4) (mCons (mVar 1) mNil)))))))
def m_l_put : MS :=
    (mSeq p_l_put_0
    (mRet (mVar 1)))
def fn_l_put : Fn := noX (fnSem 5 2 m_l_put)
def m_Building_size : MS :=
    (mRet (mOp1 (fldD ix_own_size) (mVar 0)))
def fn_Building_size : Fn := noX (fnSem 1 1 m_Building_size)
def m_l_leaves (fn_l_leaves : Nat → Fn) (n : Nat) : MS :=
    (mRet (mIf (mTest (mOp1 (isD 1 ans_str) (mVar 0))) (mLst (mCons (mVar 0) mNil)) (mOp2 addD (mCallV (fn_l_leaves n) (mCons (mOp2 ixD (mVar 0) (mC (.int 1))) mNil)) (mCallV (fn_l_leaves n) (mCons (mOp2 ixD (mVar 0) (mC (.int 2))) mNil)))))
def fn_l_leaves : Nat → Fn
  | 0 => fun _ _ => .stuck
  | n + 1 => noX (fnSem 1 1 (m_l_leaves (fun _ => fn_l_leaves n) n))
def c_l_near_right_0 : ME :=
    (mLc (mIt itL (mVar 4)) [5] (gN 5) (mTest (mOp2 (isBlD true) (mCallV fn_is_surrounding (mCons (mVar 5) mNil)) (mC (.bl false)))) (mVar 5))
def m_l_near_right : MS :=
    (mSeq (mAsg 2 (mCallV fn_l_steps_made (mCons (mVar 1) mNil)))
    (mSeq (mAsg 3 (mCm 0 fn_Building_tie mNil))
    (mSeq (mAsg 4 (mLst (mCons (mC .non) (mCons (mC (.int 0)) (mCons (mLst mNil) (mCons mDct0 (mCons (mC (.str "row")) (mCons (mCall (one1 lstD) (mCons (mVar 2) mNil)) (mCons (mOp2 addD (mVar 2) (mTup (mCons (mC .non) mNil))) (mCons (mOp2 addD (mVar 2) (mTup (mCons (mTup (mCons (mC (.str "row")) (mCons (mC (.int 0)) mNil))) mNil))) (mCons (mOp2 addD (mVar 2) (mTup (mCons (mTup (mCons (mC (.str "row")) (mCons (mC (.int 2)) (mCons (mVar 3) mNil)))) mNil))) (mCons (mOp2 addD (mVar 2) (mTup (mCons (mTup (mCons (mC (.str "tie")) (mCons (mC (.int 0)) (mCons (mVar 3) mNil)))) mNil))) mNil))))))))))))
    (mSeq (mAsg 4 (mOp2 addD (mVar 4) (mLst (mCons (mOp2 addD (mVar 2) (mTup (mCons (mTup (mCons (mC (.str "row")) (mCons (mC (.bl true)) (mCons (mVar 3) mNil)))) mNil))) (mCons (mOp2 addD (mVar 2) (mTup (mCons (mTup (mCons (mC (.str "side")) (mCons (mOp1 negD (mC (.int 1))) (mCons (mVar 3) mNil)))) mNil))) (mCons (mOp2 addD (mVar 2) (mTup (mCons (mLst (mCons (mC (.str "row")) (mCons (mC (.int 0)) (mCons (mVar 3) mNil)))) mNil))) (mCons (mOp2 addD (mVar 2) (mTup (mCons (mTup (mCons (mC (.str "row")) (mCons (mC (.int 0)) (mCons (mC (.str "tie")) mNil)))) mNil))) mNil)))))))
    (mSeq (mAsg 4 (mOp2 addD (mVar 4) (mLst (mCons (mOp2 addD (mVar 2) (mTup (mCons (mTup (mCons (mC (.str "row")) (mCons (mC (.int 0)) (mCons (mVar 3) (mCons (mC (.int 0)) mNil))))) mNil))) (mCons (mOp2 addD (mVar 2) (mTup (mCons (mTup (mCons (mC (.int 0)) (mCons (mC (.str "row")) (mCons (mVar 3) mNil)))) mNil))) (mCons (mOp2 addD (mVar 2) (mTup (mCons (mTup (mCons (mC (.str "row")) (mCons (mC .non) (mCons (mVar 3) mNil)))) mNil))) (mCons (mOp2 mulT (mTup (mCons (mTup (mCons (mC (.str "row")) (mCons (mC (.int 0)) (mCons (mVar 3) mNil)))) mNil)) (mC (.int 61))) (mCons (mVar 3) mNil))))))))
    (mSeq (mIfS (mTest (mOp2 neD c_l_near_right_0 (mLst mNil))) (mRet (mC (.bl false))) mNext)
    (mRet (mAndV (mOp2 (isBlD false) (mCallV fn_is_surrounding (mCons (mVar 2) mNil)) (mC (.bl true))) (mAndV (mOp2 (isBlD false) (mCallV fn_is_surrounding (mCons (mOp2 mulT (mTup (mCons (mTup (mCons (mC (.str "side")) (mCons (mC (.int 1)) (mCons (mVar 3) mNil)))) mNil)) (mC (.int 60))) mNil)) (mC (.bl true))) (mOp2 (isBlD false) (mCallV fn_is_surrounding (mCons (mTup mNil) mNil)) (mC (.bl true))))))))))))
def fn_l_near_right : Fn := noX (fnSem 6 2 m_l_near_right)
def m_l_right : MS :=
    (mSeq (mAsg 1 (mCallD (fn_l_building 64) 0 (mCons (mOp2 addD (mC (.int 1)) (mCallD fn_l_roll 0 (mCons (mC (.int 8)) mNil))) mNil)))
    (mSeq (mPar 6 7 (mCons (mCallV (fn_l_built 64) (mCons (mVar 1) mNil)) (mCons (mCallD (fn_l_building 64) 0 (mCons (mOp2 addD (mC (.int 1)) (mCallD fn_l_roll 0 (mCons (mC (.int 4)) mNil))) mNil)) mNil)))
    (mSeq (mAsg 2 (mCallD fn_l_pick 0 (mCons (mCall (one1 lstD) (mCons (mOp1 (fun x => objN 0 fn_Building_paths [x]) (mVar 6)) mNil)) mNil)))
    (mSeq (mPar 8 9 (mCons (mCallV fn_surrounding_at (mCons (mVar 6) (mCons (mVar 2) mNil))) (mCons (mCallV fn_l_steps_up (mCons (mVar 1) (mCons (mVar 2) mNil))) mNil)))
    (mSeq (mIfS (mOr (mTest (mOp2 (orD neD (neXD 0 fn_Building_uequ 3)) (mVar 8) (mCallV fn_l_steps_made (mCons (mVar 9) mNil)))) (mTest (mOp2 (isBlD true) (mCallV fn_is_surrounding (mCons (mVar 8) mNil)) (mC (.bl true))))) (mRet (mC (.bl false))) mNext)
    (mSeq (mAsg 3 (mCallV (fn_l_built 64) (mCons (mVar 7) mNil)))
    (mSeq (mIfS (mOr (mTest (mOp2 (orD neD (neO 0 fn_Building_uequ)) (mCallV fn_put_into (mCons (mVar 8) (mCons (mMeth 0 fn_Building_at (mVar 6) (mCons (mVar 2) mNil)) mNil))) (mVar 6))) (mTest (mOp2 (orD neD (neO 0 fn_Building_uequ)) (mCallV fn_put_into (mCons (mVar 8) (mCons (mVar 3) mNil))) (mMeth 0 fn_Building_put (mVar 6) (mCons (mVar 2) (mCons (mVar 3) mNil)))))) (mRet (mC (.bl false))) mNext)
    (mSeq (mPar 10 11 (mCons (mCallD fn_l_steps 0 (mCons (mC (.int 4)) (mCons (mC (.int 4)) mNil))) (mCons (mCallD fn_l_steps 0 (mCons (mC (.int 3)) (mCons (mC (.int 3)) mNil))) mNil)))
    (mSeq (mAsg 4 (mCallV fn_put_into (mCons (mCallV fn_l_steps_made (mCons (mVar 10) mNil)) (mCons (mVar 6) mNil))))
    (mSeq (mIfS (mOr (mTest (mOp2 neD (mOp1 (fun x => objN 0 fn_Building_text [x]) (mVar 4)) (mCallV (fn_l_text 64) (mCons (mCallV fn_l_put (mCons (mVar 10) (mCons (mVar 1) mNil))) mNil)))) (mTest (mOp2 neD (mOp1 (fun x => objN 0 fn_Building_size [x]) (mVar 4)) (mCall (one1 lenD) (mCons (mCallV (fn_l_leaves 64) (mCons (mCallV fn_l_put (mCons (mVar 10) (mCons (mVar 1) mNil))) mNil)) mNil))))) (mRet (mC (.bl false))) mNext)
    (mSeq (mAsg 5 (mCallV fn_put_into (mCons (mCallV fn_l_steps_made (mCons (mVar 11) mNil)) (mCons (mVar 4) mNil))))
    (mSeq (mIfS (mOr (mTest (mOp2 (orD neD (neO 0 fn_Building_uequ)) (mVar 5) (mCallV fn_put_into (mCons (mCallV fn_l_steps_made (mCons (mOp2 addD (mVar 10) (mVar 11)) mNil)) (mCons (mVar 6) mNil))))) (mTest (mOp2 (orD neD (neO 0 fn_Building_uequ)) (mCallV fn_put_into (mCons (mTup mNil) (mCons (mVar 6) mNil))) (mVar 6)))) (mRet (mC (.bl false))) mNext)
    (mRet (mAndV (mCallD fn_l_near_right 0 (mCons (mVar 10) mNil)) (mOp2 eq0 (mCallV fn_surrounding_at (mCons (mVar 6) (mCons (mTup mNil) mNil))) (mTup mNil))))))))))))))))
def fn_l_right : Fn := noX (fnSem 12 1 m_l_right)
def p_lawX_0 : MS :=
    (mFor (mItA rng1 (mCons (mC (.int 3)) mNil)) (gN 4) (mIfS (mNot (mTest (mCallD fn_l_right 3 mNil))) (mRet (mC (.bl false))) mNext))
def p_lawX_1 : MS :=
    (mFor (mItA rng1 (mCons (mCall (two1 maxD) (mCons (mC (.int 1)) (mCons (mCall (two1 minD) (mCons (mC (.int 2)) (mCons (mCall (one1 lenD) (mCons (mVar 0) mNil)) mNil))) mNil))) mNil)) (gN 1) (mSeq (mAsgO 3 (mCallV fn_l_dice (mCons (mVar 0) (mCons (mVar 1) mNil))))
    p_lawX_0))
def m_lawX : MS :=
    (mSeq p_lawX_1
    (mSeq (mPar 5 6 (mCons (mCm 0 fn_Building_tie mNil) (mCons (mCm 0 fn_Building_gap mNil) mNil)))
    (mSeq (mAsg 2 (mLst (mCons (mOp1 (fun x => objN 0 fn_Building_text [x]) (mCallV fn_put_into (mCons (mTup (mCons (mTup (mCons (mC (.str "row")) (mCons (mC (.int 0)) (mCons (mVar 5) mNil)))) (mCons (mTup (mCons (mC (.str "side")) (mCons (mC (.int 1)) (mCons (mVar 6) mNil)))) mNil))) (mCons (mVar 6) mNil)))) (mCons (mCallV fn_surrounding_at (mCons (mOp2 (orD addD (objOp 0 fn_Building_uaddu)) (mVar 5) (mOp2 (objOp 0 fn_Building_uoru) (mVar 6) (mVar 5))) (mCons (mTup (mCons (mC (.int 1)) (mCons (mC (.int 0)) mNil))) mNil))) mNil))))
    (mRet (mOp2 (orD eqD (eqXD 0 fn_Building_uequ 3)) (mVar 2) (mLst (mCons (mC (.str "(gap | (gap + tie))")) (mCons (mTup (mCons (mTup (mCons (mC (.str "side")) (mCons (mC (.int 0)) (mCons (mVar 5) mNil)))) (mCons (mTup (mCons (mC (.str "row")) (mCons (mC (.int 1)) (mCons (mVar 5) mNil)))) mNil))) mNil))))))))
def fn_lawX : Fn := noX (fnSem 7 1 m_lawX)
end PM.G

/-! printed by gen.py from the defs of the law: what each is worth, and why -/
namespace PM.G
open PySem PySem.Spec PyProof.Rows L2 PM
def top (i : Nat) : Stmt := PySem.Challenge.pw_seamsayings_k58_whole_surroundings.main.body.getD i (.Pass ⟨0, 0, 0, 0⟩)
def inCls (st : Stmt) (j : Nat) : Stmt := match st with
  | .ClassDef _ _ _ b _ _ _ _ _ _ _ => b.getD j (.Pass ⟨0, 0, 0, 0⟩)
  | _ => .Pass ⟨0, 0, 0, 0⟩
abbrev s_l_dice : Stmt := top 39
abbrev s_l_roll : Stmt := top 40
abbrev s_l_building : Stmt := top 42
abbrev s_Building_uinitu : Stmt := inCls (top 21) 1
abbrev s_Building_tie : Stmt := inCls (top 21) 2
abbrev s_Building_gap : Stmt := inCls (top 21) 3
abbrev s_require_leaves : Stmt := top 20
abbrev s_joined_building : Stmt := top 23
abbrev s_Building_uaddu : Stmt := inCls (top 21) 14
abbrev s_Building_uoru : Stmt := inCls (top 21) 15
abbrev s_l_built : Stmt := top 45
abbrev s_l_pick : Stmt := top 41
abbrev s_paths_below : Stmt := top 24
abbrev s_Building_paths : Stmt := inCls (top 21) 9
abbrev s_l_steps_up : Stmt := top 49
abbrev s_require_a_building : Stmt := top 34
abbrev s_is_whole : Stmt := top 9
abbrev s_is_integer : Stmt := top 10
abbrev s_is_count : Stmt := top 11
abbrev s_part_at : Stmt := top 25
abbrev s_Building_at : Stmt := inCls (top 21) 11
abbrev s_Building_parts : Stmt := inCls (top 21) 5
abbrev s_surrounding_at : Stmt := top 37
abbrev s_l_steps_made : Stmt := top 48
abbrev s_Building_uequ : Stmt := inCls (top 21) 19
abbrev s_is_step : Stmt := top 31
abbrev s_is_surrounding : Stmt := top 32
abbrev s_require_surrounding : Stmt := top 33
abbrev s_step_taken : Stmt := top 35
abbrev s_put_into : Stmt := top 36
abbrev s_require_building : Stmt := top 22
abbrev s_with_part : Stmt := top 26
abbrev s_Building_put : Stmt := inCls (top 21) 12
abbrev s_l_steps : Stmt := top 46
abbrev s_Building_text : Stmt := inCls (top 21) 6
abbrev s_l_text : Stmt := top 44
abbrev s_l_put : Stmt := top 47
abbrev s_Building_size : Stmt := inCls (top 21) 7
abbrev s_l_leaves : Stmt := top 43
abbrev s_l_near_right : Stmt := top 50
abbrev s_l_right : Stmt := top 51
abbrev s_lawX : Stmt := top 52
/-- what the top must have written -/
structure Tx (K : PySem.W.Frag) (mg : Str → Option Value) (wo : World) (w : Wd) : Prop where
  hK : w.K = K
  cok : ClsOk w 1
  n_abs : mg "abs" = none
  n_all : mg "all" = none
  n_bool : mg "bool" = none
  n_enumerate : mg "enumerate" = none
  n_int : mg "int" = none
  n_isinstance : mg "isinstance" = none
  n_len : mg "len" = none
  n_list : mg "list" = none
  n_max : mg "max" = none
  n_min : mg "min" = none
  n_range : mg "range" = none
  n_str : mg "str" = none
  n_tuple : mg "tuple" = none
  i_GREAT : ∃ t, mg "GREAT" = some (.int 1000000000000000000000000000000000000000000000000000000000000 t)
  i_MAX_LEAVES : ∃ t, mg "MAX_LEAVES" = some (.int 60 t)
  i_MAX_STEPS : ∃ t, mg "MAX_STEPS" = some (.int 60 t)
  i_GAP : ∃ t, mg "GAP" = some (.str "gap" t)
  i_ROW_around : ∃ t, mg "ROW_around" = some (.str "row" t)
  i_ROW_buildings : ∃ t, mg "ROW_buildings" = some (.str "row" t)
  i_SIDE_around : ∃ t, mg "SIDE_around" = some (.str "side" t)
  i_SIDE_buildings : ∃ t, mg "SIDE_buildings" = some (.str "side" t)
  i_TIE : ∃ t, mg "TIE" = some (.str "tie" t)
  t_LOST : ∃ a, mg "LOST" = some (.ref a) ∧ ∀ z d, tab_LOST z = some d → ∃ v, KDct K wo a z v ∧ ∀ O H, Rep w O H d v
  t_SIGNS : ∃ a, mg "SIGNS" = some (.ref a) ∧ ∀ z d, tab_SIGNS z = some d → ∃ v, KDct K wo a z v ∧ ∀ O H, Rep w O H d v
  c_Building : mg "Building" = some (.ref (w.cl 0))
  isi_Building : ∀ t b, ans_Building t = some b → PySem.W.kitOne w.K (t.v w) (.ref (w.cl 0)) = some b
  isi_bool : ∀ t b, ans_bool t = some b → PySem.W.kitOne w.K (t.v w) (.type "bool") = some b
  isi_int : ∀ t b, ans_int t = some b → PySem.W.kitOne w.K (t.v w) (.type "int") = some b
  isi_str : ∀ t b, ans_str t = some b → PySem.W.kitOne w.K (t.v w) (.type "str") = some b
  isi_tuple : ∀ t b, ans_tuple t = some b → PySem.W.kitOne w.K (t.v w) (.type "tuple") = some b
  sl_own_leaves : SlotsOk w "own_leaves" ix_own_leaves
  sl_own_many : SlotsOk w "own_many" ix_own_many
  sl_own_parts : SlotsOk w "own_parts" ix_own_parts
  sl_own_size : SlotsOk w "own_size" ix_own_size
  sl_own_text : SlotsOk w "own_text" ix_own_text
  sl_word : SlotsOk w "word" ix_word
  st_own_leaves : SetOk w 0 "own_leaves" 0
  st_own_many : SetOk w 0 "own_many" 1
  st_own_parts : SetOk w 0 "own_parts" 2
  st_own_size : SetOk w 0 "own_size" 3
  st_own_text : SetOk w 0 "own_text" 4
  st_word : SetOk w 0 "word" 5
  f_l_dice : ∃ a fd, Fun K "_law_dice" "_law_dice" s_l_dice a fd ∧ mg "_law_dice" = some (.ref a)
  f_l_roll : ∃ a fd, Fun K "_law_roll" "_law_roll" s_l_roll a fd ∧ mg "_law_roll" = some (.ref a)
  f_l_building : ∃ a fd, Fun K "_law_building" "_law_building" s_l_building a fd ∧ mg "_law_building" = some (.ref a)
  f_Building_uinitu : ∃ g fd, Fun K "__init__" "Building.__init__" s_Building_uinitu g fd ∧ Mk K (w.cl 0) g
  f_Building_tie : ∃ g fd, Fun K "tie" "Building.tie" s_Building_tie g fd ∧ CmOk w 0 "tie" g
  f_Building_gap : ∃ g fd, Fun K "gap" "Building.gap" s_Building_gap g fd ∧ CmOk w 0 "gap" g
  f_require_leaves : ∃ a fd, Fun K "require_leaves" "require_leaves" s_require_leaves a fd ∧ mg "require_leaves" = some (.ref a)
  f_joined_building : ∃ a fd, Fun K "joined_building" "joined_building" s_joined_building a fd ∧ mg "joined_building" = some (.ref a)
  f_Building_uaddu : ∃ g fd, Fun K "__add__" "Building.__add__" s_Building_uaddu g fd ∧ OpOk w 0 "__add__" g
  f_Building_uoru : ∃ g fd, Fun K "__or__" "Building.__or__" s_Building_uoru g fd ∧ OpOk w 0 "__or__" g
  f_l_built : ∃ a fd, Fun K "_law_built" "_law_built" s_l_built a fd ∧ mg "_law_built" = some (.ref a)
  f_l_pick : ∃ a fd, Fun K "_law_pick" "_law_pick" s_l_pick a fd ∧ mg "_law_pick" = some (.ref a)
  f_paths_below : ∃ a fd, Fun K "paths_below" "paths_below" s_paths_below a fd ∧ mg "paths_below" = some (.ref a)
  f_Building_paths : ∃ g fd, Fun K "paths" "Building.paths" s_Building_paths g fd ∧ PropOk w 0 "paths" g
  f_l_steps_up : ∃ a fd, Fun K "_law_steps_up" "_law_steps_up" s_l_steps_up a fd ∧ mg "_law_steps_up" = some (.ref a)
  f_require_a_building : ∃ a fd, Fun K "require_a_building" "require_a_building" s_require_a_building a fd ∧ mg "require_a_building" = some (.ref a)
  f_is_whole : ∃ a fd, Fun K "is_whole" "is_whole" s_is_whole a fd ∧ mg "is_whole" = some (.ref a)
  f_is_integer : ∃ a fd, Fun K "is_integer" "is_integer" s_is_integer a fd ∧ mg "is_integer" = some (.ref a)
  f_is_count : ∃ a fd, Fun K "is_count" "is_count" s_is_count a fd ∧ mg "is_count" = some (.ref a)
  f_part_at : ∃ a fd, Fun K "part_at" "part_at" s_part_at a fd ∧ mg "part_at" = some (.ref a)
  f_Building_at : ∃ g fd, Fun K "at" "Building.at" s_Building_at g fd ∧ MethOk w 0 "at" g
  f_Building_parts : ∃ g fd, Fun K "parts" "Building.parts" s_Building_parts g fd ∧ PropOk w 0 "parts" g
  f_surrounding_at : ∃ a fd, Fun K "surrounding_at" "surrounding_at" s_surrounding_at a fd ∧ mg "surrounding_at" = some (.ref a)
  f_l_steps_made : ∃ a fd, Fun K "_law_steps_made" "_law_steps_made" s_l_steps_made a fd ∧ mg "_law_steps_made" = some (.ref a)
  f_Building_uequ : ∃ g fd, Fun K "__eq__" "Building.__eq__" s_Building_uequ g fd ∧ EqOk w 0 g
  f_is_step : ∃ a fd, Fun K "is_step" "is_step" s_is_step a fd ∧ mg "is_step" = some (.ref a)
  f_is_surrounding : ∃ a fd, Fun K "is_surrounding" "is_surrounding" s_is_surrounding a fd ∧ mg "is_surrounding" = some (.ref a)
  f_require_surrounding : ∃ a fd, Fun K "require_surrounding" "require_surrounding" s_require_surrounding a fd ∧ mg "require_surrounding" = some (.ref a)
  f_step_taken : ∃ a fd, Fun K "step_taken" "step_taken" s_step_taken a fd ∧ mg "step_taken" = some (.ref a)
  f_put_into : ∃ a fd, Fun K "put_into" "put_into" s_put_into a fd ∧ mg "put_into" = some (.ref a)
  f_require_building : ∃ a fd, Fun K "require_building" "require_building" s_require_building a fd ∧ mg "require_building" = some (.ref a)
  f_with_part : ∃ a fd, Fun K "with_part" "with_part" s_with_part a fd ∧ mg "with_part" = some (.ref a)
  f_Building_put : ∃ g fd, Fun K "put" "Building.put" s_Building_put g fd ∧ MethOk w 0 "put" g
  f_l_steps : ∃ a fd, Fun K "_law_steps" "_law_steps" s_l_steps a fd ∧ mg "_law_steps" = some (.ref a)
  f_Building_text : ∃ g fd, Fun K "text" "Building.text" s_Building_text g fd ∧ PropOk w 0 "text" g
  f_l_text : ∃ a fd, Fun K "_law_text" "_law_text" s_l_text a fd ∧ mg "_law_text" = some (.ref a)
  f_l_put : ∃ a fd, Fun K "_law_put" "_law_put" s_l_put a fd ∧ mg "_law_put" = some (.ref a)
  f_Building_size : ∃ g fd, Fun K "size" "Building.size" s_Building_size g fd ∧ PropOk w 0 "size" g
  f_l_leaves : ∃ a fd, Fun K "_law_leaves" "_law_leaves" s_l_leaves a fd ∧ mg "_law_leaves" = some (.ref a)
  f_l_near_right : ∃ a fd, Fun K "_law_near_right" "_law_near_right" s_l_near_right a fd ∧ mg "_law_near_right" = some (.ref a)
  f_l_right : ∃ a fd, Fun K "_law_right" "_law_right" s_l_right a fd ∧ mg "_law_right" = some (.ref a)
  f_lawX : ∃ a fd, Fun K "law" "law" s_lawX a fd ∧ mg "law" = some (.ref a)
section
variable {P : Program} {wo : World} {K : PySem.W.Frag} {mg : Str → Option Value} {base : Heap} {w : Wd}
/-! ### _law_dice -/
theorem sc_l_dice : FnScope ["_law_script", "_law_spot", "_law_cell", "_law_left"] ["_law_script", "_law_spot"] (defScope s_l_dice) := ⟨rfl, rfl, rfl, by decide +kernel, rfl, by decide +kernel, by decide +kernel⟩
theorem ok_l_dice (T : Tx K mg wo w) : DefOk false P wo K mg base w "_law_dice" 2 1 fn_l_dice := by
  obtain ⟨a, fd, F, hm⟩ := T.f_l_dice
  refine ⟨a, fd, ["_law_script", "_law_spot"], rfl, (show FnP false P wo K mg base (0 + 1) a fd _ _ from fn_ok0 false F sc_l_dice (by decide) fun cdv A outer s H E hgu hr => ?_), hm, F.kp, (F.binds fun _ _ _ _ _ _ us hl => match us, hl with | [_, _], _ => rfl)⟩
  exact (pms_cons (pms_set (i := 2) sc_l_dice.nd rfl (by first | exact .inl rfl | exact .inr rfl) (pm_if (pmt_lt (pm_var 1) (pm_len T.hK (by rfl) T.n_len (pma_cons (pm_var 0) pma_nil))) (pm_int1 (by rfl) T.n_int (pma_cons (pm_item T.hK (pm_var 0) (pm_var 1)) pma_nil)) (pm_add T.hK (pm_mul pm_int (pm_var 1)) pm_int)))
      (pms_cons (pms_set (i := 3) sc_l_dice.nd rfl (by first | exact .inl rfl | exact .inr rfl) (pm_mod (pm_max rfl (by rfl) T.n_max (pma_cons pm_int (pma_cons (pm_sub (pm_abs (by rfl) T.n_abs (pma_cons (pm_var 2) pma_nil)) (pm_pow pm_int pm_int)) pma_nil))) (pm_mul (pm_pow pm_int pm_int) (pm_pow pm_int pm_int))))
      (pms_one (pms_ret (pm_lst (pma_cons (pm_var 3) (pma_cons (pm_add T.hK (pm_add T.hK (pm_add T.hK (pm_mul (pm_mod (pm_abs (by rfl) T.n_abs (pma_cons (pm_var 2) pma_nil)) pm_int) pm_int) (pm_mul pm_int (pm_var 1))) (pm_mul pm_int (pm_int1 (by rfl) T.n_int (pma_cons (pm_lt (pm_var 2) pm_int) pma_nil)))) pm_int) (pma_cons pm_int pma_nil))))))))
/-! ### _law_roll -/
theorem sc_l_roll : FnScope ["_law_dice_here", "_law_total", "_law_one", "_law_two", "_law_found"] ["_law_dice_here", "_law_total"] (defScope s_l_roll) := ⟨rfl, rfl, rfl, by decide +kernel, rfl, by decide +kernel, by decide +kernel⟩
theorem ok_l_roll (T : Tx K mg wo w) : DefOk false P wo K mg base w "_law_roll" 2 1 fn_l_roll := by
  obtain ⟨a, fd, F, hm⟩ := T.f_l_roll
  refine ⟨a, fd, ["_law_dice_here", "_law_total"], rfl, (show FnP false P wo K mg base (0 + 1) a fd _ _ from fn_ok0 false F sc_l_roll (by decide) fun cdv A outer s H E hgu hr => ?_), hm, F.kp, (F.binds fun _ _ _ _ _ _ us hl => match us, hl with | [_, _], _ => rfl)⟩
  exact (pms_cons (pms_if (pmt_gt (pm_itemO 0 T.hK pm_int) pm_int) (pms_cons (pms_set (i := 4) sc_l_roll.nd rfl (by first | exact .inl rfl | exact .inr rfl) (pm_mod (pm_int1 (by rfl) T.n_int (pma_cons (pm_itemO 0 T.hK pm_int) pma_nil)) (pm_var 1)))
      (pms_cons (pms_setItem 0 (pm_div (pm_itemO 0 T.hK pm_int) (pm_var 1)) pm_int)
      (pms_one (pms_ret (pm_var 4))))) pms_nil)
      (pms_cons (pms_setItem 0 (pm_add T.hK (pm_itemO 0 T.hK pm_int) pm_int) pm_int)
      (pms_cons (pms_set (i := 2) sc_l_roll.nd rfl (by first | exact .inl rfl | exact .inr rfl) (pm_mod (pm_int1 (by rfl) T.n_int (pma_cons (pm_add T.hK (pm_itemO 0 T.hK pm_int) (pm_mul pm_int (pm_itemO 0 T.hK pm_int))) pma_nil)) pm_int))
      (pms_cons (pms_set (i := 3) sc_l_roll.nd rfl (by first | exact .inl rfl | exact .inr rfl) (pm_add T.hK (pm_mul (pm_mod (pm_int1 (by rfl) T.n_int (pma_cons (pm_add T.hK (pm_mul (pm_var 2) (pm_var 2)) (pm_mul pm_int (pm_itemO 0 T.hK pm_int))) pma_nil)) pm_int) pm_int) (pm_var 2)))
      (pms_one (pms_ret (pm_mod (pm_int1 (by rfl) T.n_int (pma_cons (pm_div (pm_var 3) pm_int) pma_nil)) (pm_var 1))))))))
/-! ### _law_building -/
theorem sc_l_building : FnScope ["_law_dice_here", "_law_leaves_here", "_law_cut", "_law_word"] ["_law_dice_here", "_law_leaves_here"] (defScope s_l_building) := ⟨rfl, rfl, rfl, by decide +kernel, rfl, by decide +kernel, by decide +kernel⟩
theorem ok_l_building (T : Tx K mg wo w) : ∀ n, DefOk false P wo K mg base w "_law_building" 2 (n + 2) (fn_l_building n)
  | 0 => by
    obtain ⟨a, fd, F, hm⟩ := T.f_l_building
    exact (def_zero false (a := a) (fd := fd) (ps := ["_law_dice_here", "_law_leaves_here"]) (fun _ _ => rfl) rfl hm F.kp (F.binds fun _ _ _ _ _ _ us hl => match us, hl with | [_, _], _ => rfl)).mono (by omega)
  | n + 1 => by
    have d_l_building := ok_l_building T n
    obtain ⟨a, fd, F, hm⟩ := T.f_l_building
    have d_l_roll := ok_l_roll (P := P) (base := base) T
    refine ⟨a, fd, ["_law_dice_here", "_law_leaves_here"], rfl, (show FnP false P wo K mg base (n + 2 + 1) a fd _ _ from fn_ok0 false F sc_l_building (by decide) fun cdv A outer s H E hgu hr => ?_), hm, F.kp, (F.binds fun _ _ _ _ _ _ us hl => match us, hl with | [_, _], _ => rfl)⟩
    exact (pms_cons (pms_if (pmt_eq T.hK hr (pm_var 1) pm_int) (pms_one (pms_ret (pm_if (pmt_eq T.hK hr (pm_callD 0 d_l_roll (fun z => by cases z) (hr.mono (by omega)) (by rfl) (pma_cons pm_int pma_nil) (len_cons len_nil)) pm_int) pm_str pm_str))) pms_nil)
      (pms_cons (pms_set (i := 2) sc_l_building.nd rfl (by first | exact .inl rfl | exact .inr rfl) (pm_add T.hK pm_int (pm_callD 0 d_l_roll (fun z => by cases z) (hr.mono (by omega)) (by rfl) (pma_cons (pm_sub (pm_var 1) pm_int) pma_nil) (len_cons len_nil))))
      (pms_cons (pms_set (i := 3) sc_l_building.nd rfl (by first | exact .inl rfl | exact .inr rfl) (pm_if (pmt_lt (pm_callD 0 d_l_roll (fun z => by cases z) (hr.mono (by omega)) (by rfl) (pma_cons pm_int pma_nil) (len_cons len_nil)) pm_int) pm_str pm_str))
      (pms_one (pms_ret (pm_tup (pma_cons (pm_var 3) (pma_cons (pm_callD 0 d_l_building (fun z => by cases z) (hr.mono (by omega)) (by rfl) (pma_cons (pm_var 2) pma_nil) (len_cons len_nil)) (pma_cons (pm_callD 0 d_l_building (fun z => by cases z) (hr.mono (by omega)) (by rfl) (pma_cons (pm_sub (pm_var 1) (pm_var 2)) pma_nil) (len_cons len_nil)) pma_nil)))))))))
/-! ### Building.__init__ -/
theorem sc_Building_uinitu : FnScope ["self", "word", "parts", "one", "other"] ["self", "word", "parts"] (defScope s_Building_uinitu) := ⟨rfl, rfl, rfl, by decide +kernel, rfl, by decide +kernel, by decide +kernel⟩
theorem ok_Building_uinitu (T : Tx K mg wo w) : MkOk P wo K mg base w 0 2 1 fn_Building_uinitu := by
  obtain ⟨a, fd, F, hm⟩ := T.f_Building_uinitu
  refine ⟨⟨a, fd, ["self", "word", "parts"], rfl, hm, (show FnOk P wo K mg base CX0 (0 + 1) a fd _ _ from init_ok0 F sc_Building_uinitu (by decide) fun cdv A outer s H E hr => ?_), (F.binds fun _ _ _ _ _ _ us hl => match us, hl with | [_, _, _], _ => rfl)⟩⟩
  exact (pms_cons (pms_fld (i := 0) (c := 0) T.hK T.st_word (pm_var 1))
      (pms_cons (pms_fld (i := 0) (c := 0) T.hK T.st_own_parts (pm_var 2))
      (pms_one (pms_if (pmt_eq0 T.hK hr (pm_var 2) (pm_tup pma_nil)) (pms_one (pms_flds (i := 0) (c := 0) T.hK rfl (pm_tup (pma_cons (pm_var 1) (pma_cons (pm_tup (pma_cons (pm_var 1) pma_nil)) (pma_cons pm_int (pma_cons pm_int pma_nil))))) (pmfs_cons T.hK T.st_own_text (pmfs_cons T.hK T.st_own_leaves (pmfs_cons T.hK T.st_own_size (pmfs_cons T.hK T.st_own_many pmfs_nil)))))) (pms_cons (pms_asgG (pm_var 2) (pmg_tup T.hK rfl (pmgs_cons (pmg_name (i := 3) sc_Building_uinitu.nd rfl (by first | exact .inl rfl | exact .inr rfl)) (pmgs_cons (pmg_name (i := 4) sc_Building_uinitu.nd rfl (by first | exact .inl rfl | exact .inr rfl)) pmgs_nil))))
      (pms_cons (pms_fld (i := 0) (c := 0) T.hK T.st_own_text (pm_joined (pmj_cons pm_str (pmj_cons (pm_fmt (pm_fld T.hK T.sl_own_text (pm_var 3))) (pmj_cons (pm_fmt (pm_kd T.t_SIGNS (by rfl) (pm_var 1))) (pmj_cons (pm_fmt (pm_fld T.hK T.sl_own_text (pm_var 4))) (pmj_cons pm_str pmj_nil)))))))
      (pms_cons (pms_fld (i := 0) (c := 0) T.hK T.st_own_leaves (pm_tup (pma_star T.hK (pm_fld T.hK T.sl_own_leaves (pm_var 3)) (pma_star T.hK (pm_fld T.hK T.sl_own_leaves (pm_var 4)) pma_nil))))
      (pms_cons (pms_fld (i := 0) (c := 0) T.hK T.st_own_size (pm_add T.hK (pm_fld T.hK T.sl_own_size (pm_var 3)) (pm_fld T.hK T.sl_own_size (pm_var 4))))
      (pms_one (pms_fld (i := 0) (c := 0) T.hK T.st_own_many (pm_sub (pm_add T.hK (pm_fld T.hK T.sl_own_many (pm_var 3)) (pm_fld T.hK T.sl_own_many (pm_var 4))) (pm_kd T.t_LOST (by rfl) (pm_var 1)))))))))))))
/-! ### Building.tie -/
theorem sc_Building_tie : FnScope ["cls"] ["cls"] (defScope s_Building_tie) := ⟨rfl, rfl, rfl, by decide +kernel, rfl, by decide +kernel, by decide +kernel⟩
theorem ok_Building_tie (T : Tx K mg wo w) : ∃ g, CmOk w 0 "tie" g ∧ MthOk P wo K mg base w g 1 3 fn_Building_tie := by
  obtain ⟨a, fd, F, hm⟩ := T.f_Building_tie
  have k_Building_uinitu := ok_Building_uinitu (P := P) (base := base) T
  obtain ⟨_, i_TIE⟩ := T.i_TIE
  refine ⟨a, hm, mth_of (ps := ["cls"]) (show FnP false P wo K mg base (2 + 1) a fd _ _ from fn_ok0 false F sc_Building_tie (by decide) fun cdv A outer s H E hgu hr => ?_) (F.binds fun _ _ _ _ _ _ us hl => match us, hl with | [_], _ => rfl)⟩
  exact (pms_one (pms_ret (pm_makeL (i := 0) k_Building_uinitu (hr.mono (by omega)) (pma_cons (pm_gstr (by rfl) i_TIE) (pma_cons (pm_tup pma_nil) pma_nil)) (len_cons (len_cons len_nil)))))
/-! ### Building.gap -/
theorem sc_Building_gap : FnScope ["cls"] ["cls"] (defScope s_Building_gap) := ⟨rfl, rfl, rfl, by decide +kernel, rfl, by decide +kernel, by decide +kernel⟩
theorem ok_Building_gap (T : Tx K mg wo w) : ∃ g, CmOk w 0 "gap" g ∧ MthOk P wo K mg base w g 1 3 fn_Building_gap := by
  obtain ⟨a, fd, F, hm⟩ := T.f_Building_gap
  have k_Building_uinitu := ok_Building_uinitu (P := P) (base := base) T
  obtain ⟨_, i_GAP⟩ := T.i_GAP
  refine ⟨a, hm, mth_of (ps := ["cls"]) (show FnP false P wo K mg base (2 + 1) a fd _ _ from fn_ok0 false F sc_Building_gap (by decide) fun cdv A outer s H E hgu hr => ?_) (F.binds fun _ _ _ _ _ _ us hl => match us, hl with | [_], _ => rfl)⟩
  exact (pms_one (pms_ret (pm_makeL (i := 0) k_Building_uinitu (hr.mono (by omega)) (pma_cons (pm_gstr (by rfl) i_GAP) (pma_cons (pm_tup pma_nil) pma_nil)) (len_cons (len_cons len_nil)))))
/-! ### require_leaves -/
theorem sc_require_leaves : FnScope ["many"] ["many"] (defScope s_require_leaves) := ⟨rfl, rfl, rfl, by decide +kernel, rfl, by decide +kernel, by decide +kernel⟩
theorem ok_require_leaves (T : Tx K mg wo w) : DefOk false P wo K mg base w "require_leaves" 1 1 fn_require_leaves := by
  obtain ⟨a, fd, F, hm⟩ := T.f_require_leaves
  obtain ⟨_, i_MAX_LEAVES⟩ := T.i_MAX_LEAVES
  refine ⟨a, fd, ["many"], rfl, (show FnP false P wo K mg base (0 + 1) a fd _ _ from fn_ok0 false F sc_require_leaves (by decide) fun cdv A outer s H E hgu hr => ?_), hm, F.kp, (F.binds fun _ _ _ _ _ _ us hl => match us, hl with | [_], _ => rfl)⟩
  exact (pms_one (pms_if (pmt_gt (pm_var 0) (pm_gint (by rfl) i_MAX_LEAVES)) (pms_one pms_dead) pms_nil))
/-! ### joined_building -/
theorem sc_joined_building : FnScope ["word", "one", "other"] ["word", "one", "other"] (defScope s_joined_building) := ⟨rfl, rfl, rfl, by decide +kernel, rfl, by decide +kernel, by decide +kernel⟩
theorem ok_joined_building (T : Tx K mg wo w) : DefOk false P wo K mg base w "joined_building" 3 3 fn_joined_building := by
  obtain ⟨a, fd, F, hm⟩ := T.f_joined_building
  have d_require_leaves := ok_require_leaves (P := P) (base := base) T
  have k_Building_uinitu := ok_Building_uinitu (P := P) (base := base) T
  refine ⟨a, fd, ["word", "one", "other"], rfl, (show FnP false P wo K mg base (2 + 1) a fd _ _ from fn_ok0 false F sc_joined_building (by decide) fun cdv A outer s H E hgu hr => ?_), hm, F.kp, (F.binds fun _ _ _ _ _ _ us hl => match us, hl with | [_, _, _], _ => rfl)⟩
  exact (pms_cons (pms_if (pmt_not (pmt_val (pm_isiC T.hK T.cok T.isi_Building (by rfl) T.n_isinstance (by rfl) T.c_Building (pm_var 2)))) (pms_one pms_dead) pms_nil)
      (pms_cons (pms_expr (pm_call d_require_leaves (fun z => by cases z) (hr.mono (by omega)) (by rfl) (pma_cons (pm_add T.hK (pm_fld T.hK T.sl_own_size (pm_var 1)) (pm_fld T.hK T.sl_own_size (pm_var 2))) pma_nil) (len_cons len_nil)))
      (pms_one (pms_ret (pm_make k_Building_uinitu (hr.mono (by omega)) (by rfl) T.c_Building (pma_cons (pm_var 0) (pma_cons (pm_tup (pma_cons (pm_var 1) (pma_cons (pm_var 2) pma_nil))) pma_nil)) (len_cons (len_cons len_nil)))))))
/-! ### Building.__add__ -/
theorem sc_Building_uaddu : FnScope ["self", "other"] ["self", "other"] (defScope s_Building_uaddu) := ⟨rfl, rfl, rfl, by decide +kernel, rfl, by decide +kernel, by decide +kernel⟩
theorem ok_Building_uaddu (T : Tx K mg wo w) : ∃ g, OpOk w 0 "__add__" g ∧ MthOk P wo K mg base w g 2 4 fn_Building_uaddu := by
  obtain ⟨a, fd, F, hm⟩ := T.f_Building_uaddu
  have d_joined_building := ok_joined_building (P := P) (base := base) T
  obtain ⟨_, i_ROW_buildings⟩ := T.i_ROW_buildings
  refine ⟨a, hm, mth_of (ps := ["self", "other"]) (show FnP false P wo K mg base (3 + 1) a fd _ _ from fn_ok0 false F sc_Building_uaddu (by decide) fun cdv A outer s H E hgu hr => ?_) (F.binds fun _ _ _ _ _ _ us hl => match us, hl with | [_, _], _ => rfl)⟩
  exact (pms_one (pms_ret (pm_call d_joined_building (fun z => by cases z) (hr.mono (by omega)) (by rfl) (pma_cons (pm_gstr (by rfl) i_ROW_buildings) (pma_cons (pm_var 0) (pma_cons (pm_var 1) pma_nil))) (len_cons (len_cons (len_cons len_nil))))))
/-! ### Building.__or__ -/
theorem sc_Building_uoru : FnScope ["self", "other"] ["self", "other"] (defScope s_Building_uoru) := ⟨rfl, rfl, rfl, by decide +kernel, rfl, by decide +kernel, by decide +kernel⟩
theorem ok_Building_uoru (T : Tx K mg wo w) : ∃ g, OpOk w 0 "__or__" g ∧ MthOk P wo K mg base w g 2 4 fn_Building_uoru := by
  obtain ⟨a, fd, F, hm⟩ := T.f_Building_uoru
  have d_joined_building := ok_joined_building (P := P) (base := base) T
  obtain ⟨_, i_SIDE_buildings⟩ := T.i_SIDE_buildings
  refine ⟨a, hm, mth_of (ps := ["self", "other"]) (show FnP false P wo K mg base (3 + 1) a fd _ _ from fn_ok0 false F sc_Building_uoru (by decide) fun cdv A outer s H E hgu hr => ?_) (F.binds fun _ _ _ _ _ _ us hl => match us, hl with | [_, _], _ => rfl)⟩
  exact (pms_one (pms_ret (pm_call d_joined_building (fun z => by cases z) (hr.mono (by omega)) (by rfl) (pma_cons (pm_gstr (by rfl) i_SIDE_buildings) (pma_cons (pm_var 0) (pma_cons (pm_var 1) pma_nil))) (len_cons (len_cons (len_cons len_nil))))))
/-! ### _law_built -/
theorem sc_l_built : FnScope ["_law_plain", "_law_one", "_law_other"] ["_law_plain"] (defScope s_l_built) := ⟨rfl, rfl, rfl, by decide +kernel, rfl, by decide +kernel, by decide +kernel⟩
theorem ok_l_built (T : Tx K mg wo w) : ∀ n, DefOk false P wo K mg base w "_law_built" 1 (n + 5) (fn_l_built n)
  | 0 => by
    obtain ⟨a, fd, F, hm⟩ := T.f_l_built
    exact (def_zero false (a := a) (fd := fd) (ps := ["_law_plain"]) (fun _ _ => rfl) rfl hm F.kp (F.binds fun _ _ _ _ _ _ us hl => match us, hl with | [_], _ => rfl)).mono (by omega)
  | n + 1 => by
    have d_l_built := ok_l_built T n
    obtain ⟨a, fd, F, hm⟩ := T.f_l_built
    obtain ⟨_, g_Building_tie, m_Building_tie⟩ := ok_Building_tie (P := P) (base := base) T
    obtain ⟨_, g_Building_gap, m_Building_gap⟩ := ok_Building_gap (P := P) (base := base) T
    obtain ⟨_, g_Building_uaddu, m_Building_uaddu⟩ := ok_Building_uaddu (P := P) (base := base) T
    obtain ⟨_, g_Building_uoru, m_Building_uoru⟩ := ok_Building_uoru (P := P) (base := base) T
    refine ⟨a, fd, ["_law_plain"], rfl, (show FnP false P wo K mg base (n + 5 + 1) a fd _ _ from fn_ok0 false F sc_l_built (by decide) fun cdv A outer s H E hgu hr => ?_), hm, F.kp, (F.binds fun _ _ _ _ _ _ us hl => match us, hl with | [_], _ => rfl)⟩
    exact (pms_cons (pms_if (pmt_val (pm_isiB T.hK T.cok T.isi_str (by rfl) T.n_isinstance (by rfl) T.n_str rfl (pm_var 0))) (pms_one (pms_ret (pm_if (pmt_eq T.hK hr (pm_var 0) pm_str) (pm_cm0 T.hK g_Building_tie m_Building_tie (hr.mono (by omega)) (by rfl) T.c_Building) (pm_cm0 T.hK g_Building_gap m_Building_gap (hr.mono (by omega)) (by rfl) T.c_Building)))) pms_nil)
      (pms_cons (pms_par (i := 1) (j := 2) rfl sc_l_built.nd rfl rfl (by decide) rfl rfl (pma_cons (pm_call d_l_built (fun z => by cases z) (hr.mono (by omega)) (by rfl) (pma_cons (pm_item T.hK (pm_var 0) pm_int) pma_nil) (len_cons len_nil)) (pma_cons (pm_call d_l_built (fun z => by cases z) (hr.mono (by omega)) (by rfl) (pma_cons (pm_item T.hK (pm_var 0) pm_int) pma_nil) (len_cons len_nil)) pma_nil)) (by rfl))
      (pms_one (pms_ret (pm_if (pmt_eq T.hK hr (pm_item T.hK (pm_var 0) pm_int) pm_str) (pm_addO T.hK g_Building_uaddu m_Building_uaddu (hr.mono (by omega)) (pm_var 1) (pm_var 2)) (pm_orO T.hK g_Building_uoru m_Building_uoru (hr.mono (by omega)) (pm_var 1) (pm_var 2)))))))
/-! ### _law_pick -/
theorem sc_l_pick : FnScope ["_law_dice_here", "_law_items"] ["_law_dice_here", "_law_items"] (defScope s_l_pick) := ⟨rfl, rfl, rfl, by decide +kernel, rfl, by decide +kernel, by decide +kernel⟩
theorem ok_l_pick (T : Tx K mg wo w) : DefOk false P wo K mg base w "_law_pick" 2 2 fn_l_pick := by
  obtain ⟨a, fd, F, hm⟩ := T.f_l_pick
  have d_l_roll := ok_l_roll (P := P) (base := base) T
  refine ⟨a, fd, ["_law_dice_here", "_law_items"], rfl, (show FnP false P wo K mg base (1 + 1) a fd _ _ from fn_ok0 false F sc_l_pick (by decide) fun cdv A outer s H E hgu hr => ?_), hm, F.kp, (F.binds fun _ _ _ _ _ _ us hl => match us, hl with | [_, _], _ => rfl)⟩
  exact (pms_one (pms_ret (pm_item T.hK (pm_var 1) (pm_callD 0 d_l_roll (fun z => by cases z) (hr.mono (by omega)) (by rfl) (pma_cons (pm_len T.hK (by rfl) T.n_len (pma_cons (pm_var 1) pma_nil)) pma_nil) (len_cons len_nil)))))
/-! ### paths_below -/
theorem sc_paths_below : FnScope ["building", "found", "index", "part", "rest"] ["building"] (defScope s_paths_below) := ⟨rfl, rfl, rfl, by decide +kernel, rfl, by decide +kernel, by decide +kernel⟩
theorem ok_paths_below (T : Tx K mg wo w) : ∀ n, DefOk false P wo K mg base w "paths_below" 1 (n + 1) (fn_paths_below n)
  | 0 => by
    obtain ⟨a, fd, F, hm⟩ := T.f_paths_below
    exact (def_zero false (a := a) (fd := fd) (ps := ["building"]) (fun _ _ => rfl) rfl hm F.kp (F.binds fun _ _ _ _ _ _ us hl => match us, hl with | [_], _ => rfl)).mono (by omega)
  | n + 1 => by
    have d_paths_below := ok_paths_below T n
    obtain ⟨a, fd, F, hm⟩ := T.f_paths_below
    refine ⟨a, fd, ["building"], rfl, (show FnP false P wo K mg base (n + 1 + 1) a fd _ _ from fn_ok0 false F sc_paths_below (by decide) fun cdv A outer s H E hgu hr => ?_), hm, F.kp, (F.binds fun _ _ _ _ _ _ us hl => match us, hl with | [_], _ => rfl)⟩
    exact (pms_cons (pms_set (i := 1) sc_paths_below.nd rfl (by first | exact .inl rfl | exact .inr rfl) (pm_lst (pma_cons (pm_tup pma_nil) pma_nil)))
      (pms_cons (pms_for PassesOwn.never rfl (pmi_enumT T.hK (by rfl) T.n_enumerate (pma_cons (pm_fld T.hK T.sl_own_parts (pm_var 0)) pma_nil)) (pmg_tup T.hK rfl (pmgs_cons (pmg_name (i := 2) sc_paths_below.nd rfl (by first | exact .inl rfl | exact .inr rfl)) (pmgs_cons (pmg_name (i := 3) sc_paths_below.nd rfl (by first | exact .inl rfl | exact .inr rfl)) pmgs_nil))) (pms_one (pms_set (i := 1) sc_paths_below.nd rfl (by first | exact .inl rfl | exact .inr rfl) (pm_add T.hK (pm_var 1) (pm_lc (own := [("rest", 4)]) rfl sc_paths_below.nd (pmi_list T.hK (pm_call d_paths_below (fun z => by cases z) (hr.mono (by omega)) (by rfl) (pma_cons (pm_var 3) pma_nil) (len_cons len_nil))) (blkOk_by (by kernel_rfl)) (by decide) (fun _ _ _ _ _ => (pmg_name (i := 4) sc_paths_below.nd rfl (by first | exact .inl rfl | exact .inr rfl))) (fun _ _ _ _ _ => pmts_nil) (fun _ _ _ _ _ => (pm_tup (pma_cons (pm_var 2) (pma_star T.hK (pm_var 4) pma_nil)))))))))
      (pms_one (pms_ret (pm_var 1)))))
/-! ### Building.paths -/
theorem sc_Building_paths : FnScope ["self"] ["self"] (defScope s_Building_paths) := ⟨rfl, rfl, rfl, by decide +kernel, rfl, by decide +kernel, by decide +kernel⟩
theorem ok_Building_paths (T : Tx K mg wo w) : ∃ g, PropOk w 0 "paths" g ∧ MthOk P wo K mg base w g 1 66 fn_Building_paths := by
  obtain ⟨a, fd, F, hm⟩ := T.f_Building_paths
  have d_paths_below := ok_paths_below (P := P) (base := base) T 64
  refine ⟨a, hm, mth_of (ps := ["self"]) (show FnP false P wo K mg base (65 + 1) a fd _ _ from fn_ok0 false F sc_Building_paths (by decide) fun cdv A outer s H E hgu hr => ?_) (F.binds fun _ _ _ _ _ _ us hl => match us, hl with | [_], _ => rfl)⟩
  exact (pms_one (pms_ret (pm_tuple T.hK (by rfl) T.n_tuple (pma_cons (pm_call d_paths_below (fun z => by cases z) (hr.mono (by omega)) (by rfl) (pma_cons (pm_var 0) pma_nil) (len_cons len_nil)) pma_nil))))
/-! ### _law_steps_up -/
theorem sc_l_steps_up : FnScope ["_law_plain", "_law_path", "_law_at", "_law_found", "_law_here"] ["_law_plain", "_law_path"] (defScope s_l_steps_up) := ⟨rfl, rfl, rfl, by decide +kernel, rfl, by decide +kernel, by decide +kernel⟩
theorem ok_l_steps_up (T : Tx K mg wo w) : DefOk false P wo K mg base w "_law_steps_up" 2 1 fn_l_steps_up := by
  obtain ⟨a, fd, F, hm⟩ := T.f_l_steps_up
  refine ⟨a, fd, ["_law_plain", "_law_path"], rfl, (show FnP false P wo K mg base (0 + 1) a fd _ _ from fn_ok0 false F sc_l_steps_up (by decide) fun cdv A outer s H E hgu hr => ?_), hm, F.kp, (F.binds fun _ _ _ _ _ _ us hl => match us, hl with | [_, _], _ => rfl)⟩
  exact (pms_cons (pms_par (i := 3) (j := 4) rfl sc_l_steps_up.nd rfl rfl (by decide) rfl rfl (pma_cons (pm_lst pma_nil) (pma_cons (pm_var 0) pma_nil)) (by rfl))
      (pms_cons (pms_for PassesOwn.never rfl (pmi_tup T.hK (pm_var 1)) (pmg_name (i := 2) sc_l_steps_up.nd rfl (by first | exact .inl rfl | exact .inr rfl)) (pms_cons (pms_set (i := 3) sc_l_steps_up.nd rfl (by first | exact .inl rfl | exact .inr rfl) (pm_add T.hK (pm_lst (pma_cons (pm_tup (pma_cons (pm_item T.hK (pm_var 4) pm_int) (pma_cons (pm_var 2) (pma_cons (pm_item T.hK (pm_var 4) (pm_sub pm_int (pm_var 2))) pma_nil)))) pma_nil)) (pm_var 3)))
      (pms_one (pms_set (i := 4) sc_l_steps_up.nd rfl (by first | exact .inl rfl | exact .inr rfl) (pm_item T.hK (pm_var 4) (pm_add T.hK pm_int (pm_var 2)))))))
      (pms_one (pms_ret (pm_var 3)))))
/-! ### require_a_building -/
theorem sc_require_a_building : FnScope ["value"] ["value"] (defScope s_require_a_building) := ⟨rfl, rfl, rfl, by decide +kernel, rfl, by decide +kernel, by decide +kernel⟩
theorem ok_require_a_building (T : Tx K mg wo w) : DefOk false P wo K mg base w "require_a_building" 1 1 fn_require_a_building := by
  obtain ⟨a, fd, F, hm⟩ := T.f_require_a_building
  refine ⟨a, fd, ["value"], rfl, (show FnP false P wo K mg base (0 + 1) a fd _ _ from fn_ok0 false F sc_require_a_building (by decide) fun cdv A outer s H E hgu hr => ?_), hm, F.kp, (F.binds fun _ _ _ _ _ _ us hl => match us, hl with | [_], _ => rfl)⟩
  exact (pms_one (pms_if (pmt_not (pmt_val (pm_isiC T.hK T.cok T.isi_Building (by rfl) T.n_isinstance (by rfl) T.c_Building (pm_var 0)))) (pms_one pms_dead) pms_nil))
/-! ### is_whole -/
theorem sc_is_whole : FnScope ["value"] ["value"] (defScope s_is_whole) := ⟨rfl, rfl, rfl, by decide +kernel, rfl, by decide +kernel, by decide +kernel⟩
theorem ok_is_whole (T : Tx K mg wo w) : DefOk false P wo K mg base w "is_whole" 1 1 fn_is_whole := by
  obtain ⟨a, fd, F, hm⟩ := T.f_is_whole
  refine ⟨a, fd, ["value"], rfl, (show FnP false P wo K mg base (0 + 1) a fd _ _ from fn_ok0 false F sc_is_whole (by decide) fun cdv A outer s H E hgu hr => ?_), hm, F.kp, (F.binds fun _ _ _ _ _ _ us hl => match us, hl with | [_], _ => rfl)⟩
  exact (pms_one (pms_ret (pm_and (pm_isiB T.hK T.cok T.isi_int (by rfl) T.n_isinstance (by rfl) T.n_int rfl (pm_var 0)) (pm_one (pm_not (pm_isiB T.hK T.cok T.isi_bool (by rfl) T.n_isinstance (by rfl) T.n_bool rfl (pm_var 0)))))))
/-! ### is_integer -/
theorem sc_is_integer : FnScope ["value"] ["value"] (defScope s_is_integer) := ⟨rfl, rfl, rfl, by decide +kernel, rfl, by decide +kernel, by decide +kernel⟩
theorem ok_is_integer (T : Tx K mg wo w) : DefOk false P wo K mg base w "is_integer" 1 2 fn_is_integer := by
  obtain ⟨a, fd, F, hm⟩ := T.f_is_integer
  have d_is_whole := ok_is_whole (P := P) (base := base) T
  obtain ⟨_, i_GREAT⟩ := T.i_GREAT
  refine ⟨a, fd, ["value"], rfl, (show FnP false P wo K mg base (1 + 1) a fd _ _ from fn_ok0 false F sc_is_integer (by decide) fun cdv A outer s H E hgu hr => ?_), hm, F.kp, (F.binds fun _ _ _ _ _ _ us hl => match us, hl with | [_], _ => rfl)⟩
  exact (pms_one (pms_ret (pm_and (pm_call d_is_whole (fun z => by cases z) (hr.mono (by omega)) (by rfl) (pma_cons (pm_var 0) pma_nil) (len_cons len_nil)) (pm_one (pm_chain op_lt op_lt (o2_intB fun i j => decide (i < j)) (o2_intB fun i j => decide (i < j)) (pm_neg (pm_gint (by rfl) i_GREAT)) (pm_var 0) (pm_gint (by rfl) i_GREAT))))))
/-! ### is_count -/
theorem sc_is_count : FnScope ["value"] ["value"] (defScope s_is_count) := ⟨rfl, rfl, rfl, by decide +kernel, rfl, by decide +kernel, by decide +kernel⟩
theorem ok_is_count (T : Tx K mg wo w) : DefOk false P wo K mg base w "is_count" 1 3 fn_is_count := by
  obtain ⟨a, fd, F, hm⟩ := T.f_is_count
  have d_is_integer := ok_is_integer (P := P) (base := base) T
  refine ⟨a, fd, ["value"], rfl, (show FnP false P wo K mg base (2 + 1) a fd _ _ from fn_ok0 false F sc_is_count (by decide) fun cdv A outer s H E hgu hr => ?_), hm, F.kp, (F.binds fun _ _ _ _ _ _ us hl => match us, hl with | [_], _ => rfl)⟩
  exact (pms_one (pms_ret (pm_and (pm_call d_is_integer (fun z => by cases z) (hr.mono (by omega)) (by rfl) (pma_cons (pm_var 0) pma_nil) (len_cons len_nil)) (pm_one (pm_ge (pm_var 0) pm_int)))))
/-! ### part_at -/
theorem sc_part_at : FnScope ["building", "path", "found", "step"] ["building", "path"] (defScope s_part_at) := ⟨rfl, rfl, rfl, by decide +kernel, rfl, by decide +kernel, by decide +kernel⟩
theorem ok_part_at (T : Tx K mg wo w) : DefOk false P wo K mg base w "part_at" 2 3 fn_part_at := by
  obtain ⟨a, fd, F, hm⟩ := T.f_part_at
  have d_is_integer := ok_is_integer (P := P) (base := base) T
  refine ⟨a, fd, ["building", "path"], rfl, (show FnP false P wo K mg base (2 + 1) a fd _ _ from fn_ok0 false F sc_part_at (by decide) fun cdv A outer s H E hgu hr => ?_), hm, F.kp, (F.binds fun _ _ _ _ _ _ us hl => match us, hl with | [_, _], _ => rfl)⟩
  exact (pms_cons (pms_if (pmt_not (pmt_val (pm_isiB T.hK T.cok T.isi_tuple (by rfl) T.n_isinstance (by rfl) T.n_tuple rfl (pm_var 1)))) (pms_one pms_dead) pms_nil)
      (pms_cons (pms_set (i := 2) sc_part_at.nd rfl (by first | exact .inl rfl | exact .inr rfl) (pm_var 0))
      (pms_cons (pms_for PassesOwn.never rfl (pmi_tup T.hK (pm_var 1)) (pmg_name (i := 3) sc_part_at.nd rfl (by first | exact .inl rfl | exact .inr rfl)) (pms_cons (pms_if (PMW.pt (pmw_or (pmt_not (pmt_val (pm_call d_is_integer (fun z => by cases z) (hr.mono (by omega)) (by rfl) (pma_cons (pm_var 3) pma_nil) (len_cons len_nil)))) (pmw_or1 (pmt_not (pmt_chain op_le op_lt (o2_intB fun i j => decide (i ≤ j)) (o2_intB fun i j => decide (i < j)) pm_int (pm_var 3) (pm_len T.hK (by rfl) T.n_len (pma_cons (pm_fld T.hK T.sl_own_parts (pm_var 2)) pma_nil))))))) (pms_one pms_dead) pms_nil)
      (pms_one (pms_set (i := 2) sc_part_at.nd rfl (by first | exact .inl rfl | exact .inr rfl) (pm_item T.hK (pm_fld T.hK T.sl_own_parts (pm_var 2)) (pm_var 3))))))
      (pms_one (pms_ret (pm_var 2))))))
/-! ### Building.at -/
theorem sc_Building_at : FnScope ["self", "path"] ["self", "path"] (defScope s_Building_at) := ⟨rfl, rfl, rfl, by decide +kernel, rfl, by decide +kernel, by decide +kernel⟩
theorem ok_Building_at (T : Tx K mg wo w) : ∃ g, MethOk w 0 "at" g ∧ MthOk P wo K mg base w g 2 4 fn_Building_at := by
  obtain ⟨a, fd, F, hm⟩ := T.f_Building_at
  have d_part_at := ok_part_at (P := P) (base := base) T
  refine ⟨a, hm, mth_of (ps := ["self", "path"]) (show FnP false P wo K mg base (3 + 1) a fd _ _ from fn_ok0 false F sc_Building_at (by decide) fun cdv A outer s H E hgu hr => ?_) (F.binds fun _ _ _ _ _ _ us hl => match us, hl with | [_, _], _ => rfl)⟩
  exact (pms_one (pms_ret (pm_call d_part_at (fun z => by cases z) (hr.mono (by omega)) (by rfl) (pma_cons (pm_var 0) (pma_cons (pm_var 1) pma_nil)) (len_cons (len_cons len_nil)))))
/-! ### Building.parts -/
theorem sc_Building_parts : FnScope ["self"] ["self"] (defScope s_Building_parts) := ⟨rfl, rfl, rfl, by decide +kernel, rfl, by decide +kernel, by decide +kernel⟩
theorem ok_Building_parts (T : Tx K mg wo w) : ∃ g, PropOk w 0 "parts" g ∧ MthOk P wo K mg base w g 1 1 fn_Building_parts := by
  obtain ⟨a, fd, F, hm⟩ := T.f_Building_parts
  refine ⟨a, hm, mth_of (ps := ["self"]) (show FnP false P wo K mg base (0 + 1) a fd _ _ from fn_ok0 false F sc_Building_parts (by decide) fun cdv A outer s H E hgu hr => ?_) (F.binds fun _ _ _ _ _ _ us hl => match us, hl with | [_], _ => rfl)⟩
  exact (pms_one (pms_ret (pm_fld T.hK T.sl_own_parts (pm_var 0))))
/-! ### surrounding_at -/
theorem sc_surrounding_at : FnScope ["building", "path", "found", "at", "index", "whole"] ["building", "path"] (defScope s_surrounding_at) := ⟨rfl, rfl, rfl, by decide +kernel, rfl, by decide +kernel, by decide +kernel⟩
theorem ok_surrounding_at (T : Tx K mg wo w) : DefOk false P wo K mg base w "surrounding_at" 2 68 fn_surrounding_at := by
  obtain ⟨a, fd, F, hm⟩ := T.f_surrounding_at
  have d_require_a_building := ok_require_a_building (P := P) (base := base) T
  have d_is_count := ok_is_count (P := P) (base := base) T
  obtain ⟨_, g_Building_paths, m_Building_paths⟩ := ok_Building_paths (P := P) (base := base) T
  obtain ⟨_, g_Building_at, m_Building_at⟩ := ok_Building_at (P := P) (base := base) T
  obtain ⟨_, g_Building_parts, m_Building_parts⟩ := ok_Building_parts (P := P) (base := base) T
  refine ⟨a, fd, ["building", "path"], rfl, (show FnP false P wo K mg base (67 + 1) a fd _ _ from fn_ok0 false F sc_surrounding_at (by decide) fun cdv A outer s H E hgu hr => ?_), hm, F.kp, (F.binds fun _ _ _ _ _ _ us hl => match us, hl with | [_, _], _ => rfl)⟩
  exact (pms_cons (pms_expr (pm_call d_require_a_building (fun z => by cases z) (hr.mono (by omega)) (by rfl) (pma_cons (pm_var 0) pma_nil) (len_cons len_nil)))
      (pms_cons (pms_if (PMW.pt (pmw_or (pmt_not (pmt_val (pm_isiB T.hK T.cok T.isi_tuple (by rfl) T.n_isinstance (by rfl) T.n_tuple rfl (pm_var 1)))) (pmw_or (pmt_not (pmt_val (pm_all T.hK rfl (by rfl) T.n_all (pma_cons (pm_lc (own := [("index", 4)]) rfl sc_surrounding_at.nd (pmi_tup T.hK (pm_var 1)) (blkOk_by (by kernel_rfl)) (by decide) (fun _ _ _ _ _ => (pmg_name (i := 4) sc_surrounding_at.nd rfl (by first | exact .inl rfl | exact .inr rfl))) (fun _ _ _ _ _ => pmts_nil) (fun _ _ _ _ _ => (pm_call d_is_count (fun z => by cases z) (hr.mono (by omega)) (by rfl) (pma_cons (pm_var 4) pma_nil) (len_cons len_nil)))) pma_nil)))) (pmw_or1 (pmt_notInA T.hK hr (pm_var 1) (pm_prop T.hK g_Building_paths m_Building_paths (hr.mono (by omega)) (pm_var 0))))))) (pms_one pms_dead) pms_nil)
      (pms_cons (pms_setO (i := 2) sc_surrounding_at.nd rfl (by first | exact .inl rfl | exact .inr rfl) (pm_lst pma_nil))
      (pms_cons (pms_for PassesOwn.never rfl (pmi_enumT T.hK (by rfl) T.n_enumerate (pma_cons (pm_var 1) pma_nil)) (pmg_tup T.hK rfl (pmgs_cons (pmg_name (i := 3) sc_surrounding_at.nd rfl (by first | exact .inl rfl | exact .inr rfl)) (pmgs_cons (pmg_name (i := 4) sc_surrounding_at.nd rfl (by first | exact .inl rfl | exact .inr rfl)) pmgs_nil))) (pms_cons (pms_set (i := 5) sc_surrounding_at.nd rfl (by first | exact .inl rfl | exact .inr rfl) (pm_meth T.hK g_Building_at m_Building_at (hr.mono (by omega)) (pm_var 0) (pma_cons (pm_slice T.hK (pm_var 1) pmo_none (pmo_some (pm_var 3))) pma_nil) (len_cons len_nil)))
      (pms_one (pms_expr (pm_append 2 T.hK (pma_cons (pm_tup (pma_cons (pm_fld T.hK T.sl_word (pm_var 5)) (pma_cons (pm_var 4) (pma_cons (pm_item T.hK (pm_prop T.hK g_Building_parts m_Building_parts (hr.mono (by omega)) (pm_var 5)) (pm_sub pm_int (pm_var 4))) pma_nil)))) pma_nil))))))
      (pms_one (pms_ret (pm_tuple T.hK (by rfl) T.n_tuple (pma_cons (pm_revO 2 T.hK) pma_nil))))))))
/-! ### _law_steps_made -/
theorem sc_l_steps_made : FnScope ["_law_steps_here", "_law_word", "_law_at", "_law_other"] ["_law_steps_here"] (defScope s_l_steps_made) := ⟨rfl, rfl, rfl, by decide +kernel, rfl, by decide +kernel, by decide +kernel⟩
theorem ok_l_steps_made (T : Tx K mg wo w) : DefOk false P wo K mg base w "_law_steps_made" 1 70 fn_l_steps_made := by
  obtain ⟨a, fd, F, hm⟩ := T.f_l_steps_made
  have d_l_built := ok_l_built (P := P) (base := base) T 64
  refine ⟨a, fd, ["_law_steps_here"], rfl, (show FnP false P wo K mg base (69 + 1) a fd _ _ from fn_ok0 false F sc_l_steps_made (by decide) fun cdv A outer s H E hgu hr => ?_), hm, F.kp, (F.binds fun _ _ _ _ _ _ us hl => match us, hl with | [_], _ => rfl)⟩
  exact (pms_one (pms_ret (pm_tuple T.hK (by rfl) T.n_tuple (pma_cons (pm_lc (own := [("_law_word", 1), ("_law_at", 2), ("_law_other", 3)]) rfl sc_l_steps_made.nd (pmi_list T.hK (pm_var 0)) (blkOk_by (by kernel_rfl)) (by decide) (fun _ _ _ _ _ => (pmg_tup T.hK rfl (pmgs_cons (pmg_name (i := 1) sc_l_steps_made.nd rfl (by first | exact .inl rfl | exact .inr rfl)) (pmgs_cons (pmg_name (i := 2) sc_l_steps_made.nd rfl (by first | exact .inl rfl | exact .inr rfl)) (pmgs_cons (pmg_name (i := 3) sc_l_steps_made.nd rfl (by first | exact .inl rfl | exact .inr rfl)) pmgs_nil))))) (fun _ _ _ _ _ => pmts_nil) (fun _ _ _ _ _ => (pm_tup (pma_cons (pm_var 1) (pma_cons (pm_var 2) (pma_cons (pm_call d_l_built (fun z => by cases z) (hr.mono (by omega)) (by rfl) (pma_cons (pm_var 3) pma_nil) (len_cons len_nil)) pma_nil)))))) pma_nil))))
/-! ### Building.__eq__ -/
theorem sc_Building_uequ : FnScope ["self", "other"] ["self", "other"] (defScope s_Building_uequ) := ⟨rfl, rfl, rfl, by decide +kernel, rfl, by decide +kernel, by decide +kernel⟩
theorem ok_Building_uequ (T : Tx K mg wo w) : ∃ g, EqOk w 0 g ∧ MthOk P wo K mg base w g 2 1 fn_Building_uequ := by
  obtain ⟨a, fd, F, hm⟩ := T.f_Building_uequ
  refine ⟨a, hm, mth_of (ps := ["self", "other"]) (show FnP false P wo K mg base (0 + 1) a fd _ _ from fn_ok0 false F sc_Building_uequ (by decide) fun cdv A outer s H E hgu hr => ?_) (F.binds fun _ _ _ _ _ _ us hl => match us, hl with | [_, _], _ => rfl)⟩
  exact (pms_one (pms_ret (pm_and (pm_isiC T.hK T.cok T.isi_Building (by rfl) T.n_isinstance (by rfl) T.c_Building (pm_var 1)) (pm_one (pm_eq T.hK hr (pm_fld T.hK T.sl_own_text (pm_var 0)) (pm_fld T.hK T.sl_own_text (pm_var 1)))))))
/-! ### is_step -/
theorem sc_is_step : FnScope ["value", "word", "index", "building"] ["value"] (defScope s_is_step) := ⟨rfl, rfl, rfl, by decide +kernel, rfl, by decide +kernel, by decide +kernel⟩
theorem ok_is_step (T : Tx K mg wo w) : DefOk false P wo K mg base w "is_step" 1 4 fn_is_step := by
  obtain ⟨a, fd, F, hm⟩ := T.f_is_step
  have d_is_count := ok_is_count (P := P) (base := base) T
  obtain ⟨_, i_ROW_around⟩ := T.i_ROW_around
  obtain ⟨_, i_SIDE_around⟩ := T.i_SIDE_around
  refine ⟨a, fd, ["value"], rfl, (show FnP false P wo K mg base (3 + 1) a fd _ _ from fn_ok0 false F sc_is_step (by decide) fun cdv A outer s H E hgu hr => ?_), hm, F.kp, (F.binds fun _ _ _ _ _ _ us hl => match us, hl with | [_], _ => rfl)⟩
  exact (pms_cons (pms_if (PMW.pt (pmw_or (pmt_not (pmt_val (pm_isiB T.hK T.cok T.isi_tuple (by rfl) T.n_isinstance (by rfl) T.n_tuple rfl (pm_var 0)))) (pmw_or1 (pmt_ne T.hK hr (pm_len T.hK (by rfl) T.n_len (pma_cons (pm_var 0) pma_nil)) pm_int)))) (pms_one (pms_ret pm_bl)) pms_nil)
      (pms_cons (pms_asgG (pm_var 0) (pmg_tup T.hK rfl (pmgs_cons (pmg_name (i := 1) sc_is_step.nd rfl (by first | exact .inl rfl | exact .inr rfl)) (pmgs_cons (pmg_name (i := 2) sc_is_step.nd rfl (by first | exact .inl rfl | exact .inr rfl)) (pmgs_cons (pmg_name (i := 3) sc_is_step.nd rfl (by first | exact .inl rfl | exact .inr rfl)) pmgs_nil)))))
      (pms_cons (pms_if (PMW.pt (pmw_or (pmt_not (pmt_val (pm_isiB T.hK T.cok T.isi_str (by rfl) T.n_isinstance (by rfl) T.n_str rfl (pm_var 1)))) (pmw_or (pmt_notInA T.hK hr (pm_var 1) (pm_tup (pma_cons (pm_gstr (by rfl) i_ROW_around) (pma_cons (pm_gstr (by rfl) i_SIDE_around) pma_nil)))) (pmw_or (pmt_not (pmt_val (pm_call d_is_count (fun z => by cases z) (hr.mono (by omega)) (by rfl) (pma_cons (pm_var 2) pma_nil) (len_cons len_nil)))) (pmw_or1 (pmt_gt (pm_var 2) pm_int)))))) (pms_one (pms_ret pm_bl)) pms_nil)
      (pms_one (pms_ret (pm_isiC T.hK T.cok T.isi_Building (by rfl) T.n_isinstance (by rfl) T.c_Building (pm_var 3)))))))
/-! ### is_surrounding -/
theorem sc_is_surrounding : FnScope ["value", "step"] ["value"] (defScope s_is_surrounding) := ⟨rfl, rfl, rfl, by decide +kernel, rfl, by decide +kernel, by decide +kernel⟩
theorem ok_is_surrounding (T : Tx K mg wo w) : DefOk false P wo K mg base w "is_surrounding" 1 5 fn_is_surrounding := by
  obtain ⟨a, fd, F, hm⟩ := T.f_is_surrounding
  have d_is_step := ok_is_step (P := P) (base := base) T
  obtain ⟨_, i_MAX_STEPS⟩ := T.i_MAX_STEPS
  refine ⟨a, fd, ["value"], rfl, (show FnP false P wo K mg base (4 + 1) a fd _ _ from fn_ok0 false F sc_is_surrounding (by decide) fun cdv A outer s H E hgu hr => ?_), hm, F.kp, (F.binds fun _ _ _ _ _ _ us hl => match us, hl with | [_], _ => rfl)⟩
  exact (pms_one (pms_ret (pm_and (pm_isiB T.hK T.cok T.isi_tuple (by rfl) T.n_isinstance (by rfl) T.n_tuple rfl (pm_var 0)) (pm_and (pm_le (pm_len T.hK (by rfl) T.n_len (pma_cons (pm_var 0) pma_nil)) (pm_gint (by rfl) i_MAX_STEPS)) (pm_one (pm_all T.hK rfl (by rfl) T.n_all (pma_cons (pm_lc (own := [("step", 1)]) rfl sc_is_surrounding.nd (pmi_tup T.hK (pm_var 0)) (blkOk_by (by kernel_rfl)) (by decide) (fun _ _ _ _ _ => (pmg_name (i := 1) sc_is_surrounding.nd rfl (by first | exact .inl rfl | exact .inr rfl))) (fun _ _ _ _ _ => pmts_nil) (fun _ _ _ _ _ => (pm_call d_is_step (fun z => by cases z) (hr.mono (by omega)) (by rfl) (pma_cons (pm_var 1) pma_nil) (len_cons len_nil)))) pma_nil)))))))
/-! ### require_surrounding -/
theorem sc_require_surrounding : FnScope ["value"] ["value"] (defScope s_require_surrounding) := ⟨rfl, rfl, rfl, by decide +kernel, rfl, by decide +kernel, by decide +kernel⟩
theorem ok_require_surrounding (T : Tx K mg wo w) : DefOk false P wo K mg base w "require_surrounding" 1 6 fn_require_surrounding := by
  obtain ⟨a, fd, F, hm⟩ := T.f_require_surrounding
  have d_is_surrounding := ok_is_surrounding (P := P) (base := base) T
  refine ⟨a, fd, ["value"], rfl, (show FnP false P wo K mg base (5 + 1) a fd _ _ from fn_ok0 false F sc_require_surrounding (by decide) fun cdv A outer s H E hgu hr => ?_), hm, F.kp, (F.binds fun _ _ _ _ _ _ us hl => match us, hl with | [_], _ => rfl)⟩
  exact (pms_one (pms_if (pmt_not (pmt_val (pm_call d_is_surrounding (fun z => by cases z) (hr.mono (by omega)) (by rfl) (pma_cons (pm_var 0) pma_nil) (len_cons len_nil)))) (pms_one pms_dead) pms_nil))
/-! ### step_taken -/
theorem sc_step_taken : FnScope ["step", "building", "word", "index", "other", "first", "second"] ["step", "building"] (defScope s_step_taken) := ⟨rfl, rfl, rfl, by decide +kernel, rfl, by decide +kernel, by decide +kernel⟩
theorem ok_step_taken (T : Tx K mg wo w) : DefOk false P wo K mg base w "step_taken" 2 5 fn_step_taken := by
  obtain ⟨a, fd, F, hm⟩ := T.f_step_taken
  obtain ⟨_, g_Building_uaddu, m_Building_uaddu⟩ := ok_Building_uaddu (P := P) (base := base) T
  obtain ⟨_, g_Building_uoru, m_Building_uoru⟩ := ok_Building_uoru (P := P) (base := base) T
  obtain ⟨_, i_ROW_around⟩ := T.i_ROW_around
  refine ⟨a, fd, ["step", "building"], rfl, (show FnP false P wo K mg base (4 + 1) a fd _ _ from fn_ok0 false F sc_step_taken (by decide) fun cdv A outer s H E hgu hr => ?_), hm, F.kp, (F.binds fun _ _ _ _ _ _ us hl => match us, hl with | [_, _], _ => rfl)⟩
  exact (pms_cons (pms_asgG (pm_var 0) (pmg_tup T.hK rfl (pmgs_cons (pmg_name (i := 2) sc_step_taken.nd rfl (by first | exact .inl rfl | exact .inr rfl)) (pmgs_cons (pmg_name (i := 3) sc_step_taken.nd rfl (by first | exact .inl rfl | exact .inr rfl)) (pmgs_cons (pmg_name (i := 4) sc_step_taken.nd rfl (by first | exact .inl rfl | exact .inr rfl)) pmgs_nil)))))
      (pms_cons (pms_asgG (pm_if (pmt_eq T.hK hr (pm_var 3) pm_int) (pm_tup (pma_cons (pm_var 1) (pma_cons (pm_var 4) pma_nil))) (pm_tup (pma_cons (pm_var 4) (pma_cons (pm_var 1) pma_nil)))) (pmg_tup T.hK rfl (pmgs_cons (pmg_name (i := 5) sc_step_taken.nd rfl (by first | exact .inl rfl | exact .inr rfl)) (pmgs_cons (pmg_name (i := 6) sc_step_taken.nd rfl (by first | exact .inl rfl | exact .inr rfl)) pmgs_nil))))
      (pms_one (pms_ret (pm_if (pmt_eq T.hK hr (pm_var 2) (pm_gstr (by rfl) i_ROW_around)) (pm_addO T.hK g_Building_uaddu m_Building_uaddu (hr.mono (by omega)) (pm_var 5) (pm_var 6)) (pm_orO T.hK g_Building_uoru m_Building_uoru (hr.mono (by omega)) (pm_var 5) (pm_var 6)))))))
/-! ### put_into -/
theorem sc_put_into : FnScope ["surrounding", "building", "step"] ["surrounding", "building"] (defScope s_put_into) := ⟨rfl, rfl, rfl, by decide +kernel, rfl, by decide +kernel, by decide +kernel⟩
theorem ok_put_into (T : Tx K mg wo w) : DefOk false P wo K mg base w "put_into" 2 7 fn_put_into := by
  obtain ⟨a, fd, F, hm⟩ := T.f_put_into
  have d_require_surrounding := ok_require_surrounding (P := P) (base := base) T
  have d_require_a_building := ok_require_a_building (P := P) (base := base) T
  have d_step_taken := ok_step_taken (P := P) (base := base) T
  refine ⟨a, fd, ["surrounding", "building"], rfl, (show FnP false P wo K mg base (6 + 1) a fd _ _ from fn_ok0 false F sc_put_into (by decide) fun cdv A outer s H E hgu hr => ?_), hm, F.kp, (F.binds fun _ _ _ _ _ _ us hl => match us, hl with | [_, _], _ => rfl)⟩
  exact (pms_cons (pms_expr (pm_call d_require_surrounding (fun z => by cases z) (hr.mono (by omega)) (by rfl) (pma_cons (pm_var 0) pma_nil) (len_cons len_nil)))
      (pms_cons (pms_expr (pm_call d_require_a_building (fun z => by cases z) (hr.mono (by omega)) (by rfl) (pma_cons (pm_var 1) pma_nil) (len_cons len_nil)))
      (pms_cons (pms_for PassesOwn.never rfl (pmi_tup T.hK (pm_var 0)) (pmg_name (i := 2) sc_put_into.nd rfl (by first | exact .inl rfl | exact .inr rfl)) (pms_one (pms_set (i := 1) sc_put_into.nd rfl (by first | exact .inl rfl | exact .inr rfl) (pm_call d_step_taken (fun z => by cases z) (hr.mono (by omega)) (by rfl) (pma_cons (pm_var 2) (pma_cons (pm_var 1) pma_nil)) (len_cons (len_cons len_nil))))))
      (pms_one (pms_ret (pm_var 1))))))
/-! ### require_building -/
theorem sc_require_building : FnScope ["value"] ["value"] (defScope s_require_building) := ⟨rfl, rfl, rfl, by decide +kernel, rfl, by decide +kernel, by decide +kernel⟩
theorem ok_require_building (T : Tx K mg wo w) : DefOk false P wo K mg base w "require_building" 1 1 fn_require_building := by
  obtain ⟨a, fd, F, hm⟩ := T.f_require_building
  refine ⟨a, fd, ["value"], rfl, (show FnP false P wo K mg base (0 + 1) a fd _ _ from fn_ok0 false F sc_require_building (by decide) fun cdv A outer s H E hgu hr => ?_), hm, F.kp, (F.binds fun _ _ _ _ _ _ us hl => match us, hl with | [_], _ => rfl)⟩
  exact (pms_one (pms_if (pmt_not (pmt_val (pm_isiC T.hK T.cok T.isi_Building (by rfl) T.n_isinstance (by rfl) T.c_Building (pm_var 0)))) (pms_one pms_dead) pms_nil))
/-! ### with_part -/
theorem sc_with_part : FnScope ["building", "path", "other", "one", "two"] ["building", "path", "other"] (defScope s_with_part) := ⟨rfl, rfl, rfl, by decide +kernel, rfl, by decide +kernel, by decide +kernel⟩
theorem ok_with_part (T : Tx K mg wo w) : ∀ n, DefOk false P wo K mg base w "with_part" 3 (n + 3) (fn_with_part n)
  | 0 => by
    obtain ⟨a, fd, F, hm⟩ := T.f_with_part
    exact (def_zero false (a := a) (fd := fd) (ps := ["building", "path", "other"]) (fun _ _ => rfl) rfl hm F.kp (F.binds fun _ _ _ _ _ _ us hl => match us, hl with | [_, _, _], _ => rfl)).mono (by omega)
  | n + 1 => by
    have d_with_part := ok_with_part T n
    obtain ⟨a, fd, F, hm⟩ := T.f_with_part
    have k_Building_uinitu := ok_Building_uinitu (P := P) (base := base) T
    refine ⟨a, fd, ["building", "path", "other"], rfl, (show FnP false P wo K mg base (n + 3 + 1) a fd _ _ from fn_ok0 false F sc_with_part (by decide) fun cdv A outer s H E hgu hr => ?_), hm, F.kp, (F.binds fun _ _ _ _ _ _ us hl => match us, hl with | [_, _, _], _ => rfl)⟩
    exact (pms_cons (pms_if (pmt_eq0 T.hK hr (pm_var 1) (pm_tup pma_nil)) (pms_one (pms_ret (pm_var 2))) pms_nil)
      (pms_cons (pms_asgG (pm_fld T.hK T.sl_own_parts (pm_var 0)) (pmg_tup T.hK rfl (pmgs_cons (pmg_name (i := 3) sc_with_part.nd rfl (by first | exact .inl rfl | exact .inr rfl)) (pmgs_cons (pmg_name (i := 4) sc_with_part.nd rfl (by first | exact .inl rfl | exact .inr rfl)) pmgs_nil))))
      (pms_cons (pms_if (pmt_eq T.hK hr (pm_item T.hK (pm_var 1) pm_int) pm_int) (pms_one (pms_ret (pm_make k_Building_uinitu (hr.mono (by omega)) (by rfl) T.c_Building (pma_cons (pm_fld T.hK T.sl_word (pm_var 0)) (pma_cons (pm_tup (pma_cons (pm_call d_with_part (fun z => by cases z) (hr.mono (by omega)) (by rfl) (pma_cons (pm_var 3) (pma_cons (pm_slice T.hK (pm_var 1) (pmo_some pm_int) pmo_none) (pma_cons (pm_var 2) pma_nil))) (len_cons (len_cons (len_cons len_nil)))) (pma_cons (pm_var 4) pma_nil))) pma_nil)) (len_cons (len_cons len_nil))))) pms_nil)
      (pms_one (pms_ret (pm_make k_Building_uinitu (hr.mono (by omega)) (by rfl) T.c_Building (pma_cons (pm_fld T.hK T.sl_word (pm_var 0)) (pma_cons (pm_tup (pma_cons (pm_var 3) (pma_cons (pm_call d_with_part (fun z => by cases z) (hr.mono (by omega)) (by rfl) (pma_cons (pm_var 4) (pma_cons (pm_slice T.hK (pm_var 1) (pmo_some pm_int) pmo_none) (pma_cons (pm_var 2) pma_nil))) (len_cons (len_cons (len_cons len_nil)))) pma_nil))) pma_nil)) (len_cons (len_cons len_nil))))))))
/-! ### Building.put -/
theorem sc_Building_put : FnScope ["self", "path", "other", "gone"] ["self", "path", "other"] (defScope s_Building_put) := ⟨rfl, rfl, rfl, by decide +kernel, rfl, by decide +kernel, by decide +kernel⟩
theorem ok_Building_put (T : Tx K mg wo w) : ∃ g, MethOk w 0 "put" g ∧ MthOk P wo K mg base w g 3 68 fn_Building_put := by
  obtain ⟨a, fd, F, hm⟩ := T.f_Building_put
  have d_part_at := ok_part_at (P := P) (base := base) T
  have d_require_building := ok_require_building (P := P) (base := base) T
  have d_require_leaves := ok_require_leaves (P := P) (base := base) T
  have d_with_part := ok_with_part (P := P) (base := base) T 64
  refine ⟨a, hm, mth_of (ps := ["self", "path", "other"]) (show FnP false P wo K mg base (67 + 1) a fd _ _ from fn_ok0 false F sc_Building_put (by decide) fun cdv A outer s H E hgu hr => ?_) (F.binds fun _ _ _ _ _ _ us hl => match us, hl with | [_, _, _], _ => rfl)⟩
  exact (pms_cons (pms_set (i := 3) sc_Building_put.nd rfl (by first | exact .inl rfl | exact .inr rfl) (pm_call d_part_at (fun z => by cases z) (hr.mono (by omega)) (by rfl) (pma_cons (pm_var 0) (pma_cons (pm_var 1) pma_nil)) (len_cons (len_cons len_nil))))
      (pms_cons (pms_expr (pm_call d_require_building (fun z => by cases z) (hr.mono (by omega)) (by rfl) (pma_cons (pm_var 2) pma_nil) (len_cons len_nil)))
      (pms_cons (pms_expr (pm_call d_require_leaves (fun z => by cases z) (hr.mono (by omega)) (by rfl) (pma_cons (pm_add T.hK (pm_sub (pm_fld T.hK T.sl_own_size (pm_var 0)) (pm_fld T.hK T.sl_own_size (pm_var 3))) (pm_fld T.hK T.sl_own_size (pm_var 2))) pma_nil) (len_cons len_nil)))
      (pms_one (pms_ret (pm_call d_with_part (fun z => by cases z) (hr.mono (by omega)) (by rfl) (pma_cons (pm_var 0) (pma_cons (pm_var 1) (pma_cons (pm_var 2) pma_nil))) (len_cons (len_cons (len_cons len_nil)))))))))
/-! ### _law_steps -/
theorem sc_l_steps : FnScope ["_law_dice_here", "_law_many", "_law_leaves_here", "_law_found", "_law_turn", "_law_word"] ["_law_dice_here", "_law_many", "_law_leaves_here"] (defScope s_l_steps) := ⟨rfl, rfl, rfl, by decide +kernel, rfl, by decide +kernel, by decide +kernel⟩
theorem ok_l_steps (T : Tx K mg wo w) : DefOk false P wo K mg base w "_law_steps" 3 67 fn_l_steps := by
  obtain ⟨a, fd, F, hm⟩ := T.f_l_steps
  have d_l_roll := ok_l_roll (P := P) (base := base) T
  have d_l_pick := ok_l_pick (P := P) (base := base) T
  have d_l_building := ok_l_building (P := P) (base := base) T 64
  refine ⟨a, fd, ["_law_dice_here", "_law_many", "_law_leaves_here"], rfl, (show FnP false P wo K mg base (66 + 1) a fd _ _ from fn_ok0 false F sc_l_steps (by decide) fun cdv A outer s H E hgu hr => ?_), hm, F.kp, (F.binds fun _ _ _ _ _ _ us hl => match us, hl with | [_, _, _], _ => rfl)⟩
  exact (pms_cons (pms_setO (i := 3) sc_l_steps.nd rfl (by first | exact .inl rfl | exact .inr rfl) (pm_lst pma_nil))
      (pms_cons (pms_for PassesOwn.never rfl (pmi_range1 (by rfl) T.n_range (pma_cons (pm_callD 0 d_l_roll (fun z => by cases z) (hr.mono (by omega)) (by rfl) (pma_cons (pm_add T.hK (pm_var 1) pm_int) pma_nil) (len_cons len_nil)) pma_nil)) (pmg_name (i := 4) sc_l_steps.nd rfl (by first | exact .inl rfl | exact .inr rfl)) (pms_cons (pms_set (i := 5) sc_l_steps.nd rfl (by first | exact .inl rfl | exact .inr rfl) (pm_callD 0 d_l_pick (fun z => by cases z) (hr.mono (by omega)) (by rfl) (pma_cons (pm_lst (pma_cons pm_str (pma_cons pm_str pma_nil))) pma_nil) (len_cons len_nil)))
      (pms_one (pms_expr (pm_append 3 T.hK (pma_cons (pm_tup (pma_cons (pm_var 5) (pma_cons (pm_callD 0 d_l_roll (fun z => by cases z) (hr.mono (by omega)) (by rfl) (pma_cons pm_int pma_nil) (len_cons len_nil)) (pma_cons (pm_callD 0 d_l_building (fun z => by cases z) (hr.mono (by omega)) (by rfl) (pma_cons (pm_add T.hK pm_int (pm_callD 0 d_l_roll (fun z => by cases z) (hr.mono (by omega)) (by rfl) (pma_cons (pm_var 2) pma_nil) (len_cons len_nil))) pma_nil) (len_cons len_nil)) pma_nil)))) pma_nil))))))
      (pms_one (pms_retO 3))))
/-! ### Building.text -/
theorem sc_Building_text : FnScope ["self"] ["self"] (defScope s_Building_text) := ⟨rfl, rfl, rfl, by decide +kernel, rfl, by decide +kernel, by decide +kernel⟩
theorem ok_Building_text (T : Tx K mg wo w) : ∃ g, PropOk w 0 "text" g ∧ MthOk P wo K mg base w g 1 1 fn_Building_text := by
  obtain ⟨a, fd, F, hm⟩ := T.f_Building_text
  refine ⟨a, hm, mth_of (ps := ["self"]) (show FnP false P wo K mg base (0 + 1) a fd _ _ from fn_ok0 false F sc_Building_text (by decide) fun cdv A outer s H E hgu hr => ?_) (F.binds fun _ _ _ _ _ _ us hl => match us, hl with | [_], _ => rfl)⟩
  exact (pms_one (pms_ret (pm_fld T.hK T.sl_own_text (pm_var 0))))
/-! ### _law_text -/
theorem sc_l_text : FnScope ["_law_plain"] ["_law_plain"] (defScope s_l_text) := ⟨rfl, rfl, rfl, by decide +kernel, rfl, by decide +kernel, by decide +kernel⟩
theorem ok_l_text (T : Tx K mg wo w) : ∀ n, DefOk false P wo K mg base w "_law_text" 1 (n + 1) (fn_l_text n)
  | 0 => by
    obtain ⟨a, fd, F, hm⟩ := T.f_l_text
    exact (def_zero false (a := a) (fd := fd) (ps := ["_law_plain"]) (fun _ _ => rfl) rfl hm F.kp (F.binds fun _ _ _ _ _ _ us hl => match us, hl with | [_], _ => rfl)).mono (by omega)
  | n + 1 => by
    have d_l_text := ok_l_text T n
    obtain ⟨a, fd, F, hm⟩ := T.f_l_text
    refine ⟨a, fd, ["_law_plain"], rfl, (show FnP false P wo K mg base (n + 1 + 1) a fd _ _ from fn_ok0 false F sc_l_text (by decide) fun cdv A outer s H E hgu hr => ?_), hm, F.kp, (F.binds fun _ _ _ _ _ _ us hl => match us, hl with | [_], _ => rfl)⟩
    exact (pms_cons (pms_if (pmt_val (pm_isiB T.hK T.cok T.isi_str (by rfl) T.n_isinstance (by rfl) T.n_str rfl (pm_var 0))) (pms_one (pms_ret (pm_var 0))) pms_nil)
      (pms_one (pms_ret (pm_add T.hK (pm_add T.hK (pm_add T.hK (pm_add T.hK pm_str (pm_call d_l_text (fun z => by cases z) (hr.mono (by omega)) (by rfl) (pma_cons (pm_item T.hK (pm_var 0) pm_int) pma_nil) (len_cons len_nil))) (pm_if (pmt_eq T.hK hr (pm_item T.hK (pm_var 0) pm_int) pm_str) pm_str pm_str)) (pm_call d_l_text (fun z => by cases z) (hr.mono (by omega)) (by rfl) (pma_cons (pm_item T.hK (pm_var 0) pm_int) pma_nil) (len_cons len_nil))) pm_str))))
/-! ### _law_put -/
theorem sc_l_put : FnScope ["_law_steps_here", "_law_plain", "_law_word", "_law_at", "_law_other"] ["_law_steps_here", "_law_plain"] (defScope s_l_put) := ⟨rfl, rfl, rfl, by decide +kernel, rfl, by decide +kernel, by decide +kernel⟩
theorem ok_l_put (T : Tx K mg wo w) : DefOk false P wo K mg base w "_law_put" 2 1 fn_l_put := by
  obtain ⟨a, fd, F, hm⟩ := T.f_l_put
  refine ⟨a, fd, ["_law_steps_here", "_law_plain"], rfl, (show FnP false P wo K mg base (0 + 1) a fd _ _ from fn_ok0 false F sc_l_put (by decide) fun cdv A outer s H E hgu hr => ?_), hm, F.kp, (F.binds fun _ _ _ _ _ _ us hl => match us, hl with | [_, _], _ => rfl)⟩
  exact (pms_cons (pms_for PassesOwn.never rfl (pmi_list T.hK (pm_var 0)) (pmg_tup T.hK rfl (pmgs_cons (pmg_name (i := 2) sc_l_put.nd rfl (by first | exact .inl rfl | exact .inr rfl)) (pmgs_cons (pmg_name (i := 3) sc_l_put.nd rfl (by first | exact .inl rfl | exact .inr rfl)) (pmgs_cons (pmg_name (i := 4) sc_l_put.nd rfl (by first | exact .inl rfl | exact .inr rfl)) pmgs_nil)))) (pms_one (pms_set (i := 1) sc_l_put.nd rfl (by first | exact .inl rfl | exact .inr rfl) (pm_if (pmt_eq T.hK hr (pm_var 3) pm_int) (pm_tup (pma_cons (pm_var 2) (pma_cons (pm_var 1) (pma_cons (pm_var 4) pma_nil)))) (pm_tup (pma_cons (pm_var 2) (pma_cons (pm_var 4) (pma_cons (pm_var 1) pma_nil))))))))
      (pms_one (pms_ret (pm_var 1))))
/-! ### Building.size -/
theorem sc_Building_size : FnScope ["self"] ["self"] (defScope s_Building_size) := ⟨rfl, rfl, rfl, by decide +kernel, rfl, by decide +kernel, by decide +kernel⟩
theorem ok_Building_size (T : Tx K mg wo w) : ∃ g, PropOk w 0 "size" g ∧ MthOk P wo K mg base w g 1 1 fn_Building_size := by
  obtain ⟨a, fd, F, hm⟩ := T.f_Building_size
  refine ⟨a, hm, mth_of (ps := ["self"]) (show FnP false P wo K mg base (0 + 1) a fd _ _ from fn_ok0 false F sc_Building_size (by decide) fun cdv A outer s H E hgu hr => ?_) (F.binds fun _ _ _ _ _ _ us hl => match us, hl with | [_], _ => rfl)⟩
  exact (pms_one (pms_ret (pm_fld T.hK T.sl_own_size (pm_var 0))))
/-! ### _law_leaves -/
theorem sc_l_leaves : FnScope ["_law_plain"] ["_law_plain"] (defScope s_l_leaves) := ⟨rfl, rfl, rfl, by decide +kernel, rfl, by decide +kernel, by decide +kernel⟩
theorem ok_l_leaves (T : Tx K mg wo w) : ∀ n, DefOk false P wo K mg base w "_law_leaves" 1 (n + 1) (fn_l_leaves n)
  | 0 => by
    obtain ⟨a, fd, F, hm⟩ := T.f_l_leaves
    exact (def_zero false (a := a) (fd := fd) (ps := ["_law_plain"]) (fun _ _ => rfl) rfl hm F.kp (F.binds fun _ _ _ _ _ _ us hl => match us, hl with | [_], _ => rfl)).mono (by omega)
  | n + 1 => by
    have d_l_leaves := ok_l_leaves T n
    obtain ⟨a, fd, F, hm⟩ := T.f_l_leaves
    refine ⟨a, fd, ["_law_plain"], rfl, (show FnP false P wo K mg base (n + 1 + 1) a fd _ _ from fn_ok0 false F sc_l_leaves (by decide) fun cdv A outer s H E hgu hr => ?_), hm, F.kp, (F.binds fun _ _ _ _ _ _ us hl => match us, hl with | [_], _ => rfl)⟩
    exact (pms_one (pms_ret (pm_if (pmt_val (pm_isiB T.hK T.cok T.isi_str (by rfl) T.n_isinstance (by rfl) T.n_str rfl (pm_var 0))) (pm_lst (pma_cons (pm_var 0) pma_nil)) (pm_add T.hK (pm_call d_l_leaves (fun z => by cases z) (hr.mono (by omega)) (by rfl) (pma_cons (pm_item T.hK (pm_var 0) pm_int) pma_nil) (len_cons len_nil)) (pm_call d_l_leaves (fun z => by cases z) (hr.mono (by omega)) (by rfl) (pma_cons (pm_item T.hK (pm_var 0) pm_int) pma_nil) (len_cons len_nil))))))
/-! ### _law_near_right -/
theorem sc_l_near_right : FnScope ["_law_dice_here", "_law_steps_here", "_law_good", "_law_leaf", "_law_odd", "_law_value"] ["_law_dice_here", "_law_steps_here"] (defScope s_l_near_right) := ⟨rfl, rfl, rfl, by decide +kernel, rfl, by decide +kernel, by decide +kernel⟩
theorem ok_l_near_right (T : Tx K mg wo w) : DefOk false P wo K mg base w "_law_near_right" 2 71 fn_l_near_right := by
  obtain ⟨a, fd, F, hm⟩ := T.f_l_near_right
  have d_l_steps_made := ok_l_steps_made (P := P) (base := base) T
  obtain ⟨_, g_Building_tie, m_Building_tie⟩ := ok_Building_tie (P := P) (base := base) T
  have d_is_surrounding := ok_is_surrounding (P := P) (base := base) T
  refine ⟨a, fd, ["_law_dice_here", "_law_steps_here"], rfl, (show FnP false P wo K mg base (70 + 1) a fd _ _ from fn_ok0 false F sc_l_near_right (by decide) fun cdv A outer s H E hgu hr => ?_), hm, F.kp, (F.binds fun _ _ _ _ _ _ us hl => match us, hl with | [_, _], _ => rfl)⟩
  exact (pms_cons (pms_set (i := 2) sc_l_near_right.nd rfl (by first | exact .inl rfl | exact .inr rfl) (pm_call d_l_steps_made (fun z => by cases z) (hr.mono (by omega)) (by rfl) (pma_cons (pm_var 1) pma_nil) (len_cons len_nil)))
      (pms_cons (pms_set (i := 3) sc_l_near_right.nd rfl (by first | exact .inl rfl | exact .inr rfl) (pm_cm0 T.hK g_Building_tie m_Building_tie (hr.mono (by omega)) (by rfl) T.c_Building))
      (pms_cons (pms_set (i := 4) sc_l_near_right.nd rfl (by first | exact .inl rfl | exact .inr rfl) (pm_lst (pma_cons pm_non (pma_cons pm_int (pma_cons (pm_lst pma_nil) (pma_cons pm_dct0 (pma_cons pm_str (pma_cons (pm_list T.hK (by rfl) T.n_list (pma_cons (pm_var 2) pma_nil)) (pma_cons (pm_add T.hK (pm_var 2) (pm_tup (pma_cons pm_non pma_nil))) (pma_cons (pm_add T.hK (pm_var 2) (pm_tup (pma_cons (pm_tup (pma_cons pm_str (pma_cons pm_int pma_nil))) pma_nil))) (pma_cons (pm_add T.hK (pm_var 2) (pm_tup (pma_cons (pm_tup (pma_cons pm_str (pma_cons pm_int (pma_cons (pm_var 3) pma_nil)))) pma_nil))) (pma_cons (pm_add T.hK (pm_var 2) (pm_tup (pma_cons (pm_tup (pma_cons pm_str (pma_cons pm_int (pma_cons (pm_var 3) pma_nil)))) pma_nil))) pma_nil))))))))))))
      (pms_cons (pms_set (i := 4) sc_l_near_right.nd rfl (by first | exact .inl rfl | exact .inr rfl) (pm_add T.hK (pm_var 4) (pm_lst (pma_cons (pm_add T.hK (pm_var 2) (pm_tup (pma_cons (pm_tup (pma_cons pm_str (pma_cons pm_bl (pma_cons (pm_var 3) pma_nil)))) pma_nil))) (pma_cons (pm_add T.hK (pm_var 2) (pm_tup (pma_cons (pm_tup (pma_cons pm_str (pma_cons (pm_neg pm_int) (pma_cons (pm_var 3) pma_nil)))) pma_nil))) (pma_cons (pm_add T.hK (pm_var 2) (pm_tup (pma_cons (pm_lst (pma_cons pm_str (pma_cons pm_int (pma_cons (pm_var 3) pma_nil)))) pma_nil))) (pma_cons (pm_add T.hK (pm_var 2) (pm_tup (pma_cons (pm_tup (pma_cons pm_str (pma_cons pm_int (pma_cons pm_str pma_nil)))) pma_nil))) pma_nil)))))))
      (pms_cons (pms_set (i := 4) sc_l_near_right.nd rfl (by first | exact .inl rfl | exact .inr rfl) (pm_add T.hK (pm_var 4) (pm_lst (pma_cons (pm_add T.hK (pm_var 2) (pm_tup (pma_cons (pm_tup (pma_cons pm_str (pma_cons pm_int (pma_cons (pm_var 3) (pma_cons pm_int pma_nil))))) pma_nil))) (pma_cons (pm_add T.hK (pm_var 2) (pm_tup (pma_cons (pm_tup (pma_cons pm_int (pma_cons pm_str (pma_cons (pm_var 3) pma_nil)))) pma_nil))) (pma_cons (pm_add T.hK (pm_var 2) (pm_tup (pma_cons (pm_tup (pma_cons pm_str (pma_cons pm_non (pma_cons (pm_var 3) pma_nil)))) pma_nil))) (pma_cons (pm_mulT T.hK (pm_tup (pma_cons (pm_tup (pma_cons pm_str (pma_cons pm_int (pma_cons (pm_var 3) pma_nil)))) pma_nil)) pm_int) (pma_cons (pm_var 3) pma_nil))))))))
      (pms_cons (pms_if (pmt_ne T.hK hr (pm_lc (own := [("_law_value", 5)]) rfl sc_l_near_right.nd (pmi_list T.hK (pm_var 4)) (blkOk_by (by kernel_rfl)) (by decide) (fun _ _ _ _ _ => (pmg_name (i := 5) sc_l_near_right.nd rfl (by first | exact .inl rfl | exact .inr rfl))) (fun _ _ _ _ _ => (pmts_one (pmt_notB (pm_call d_is_surrounding (fun z => by cases z) (hr.mono (by omega)) (by rfl) (pma_cons (pm_var 5) pma_nil) (len_cons len_nil)) pm_bl))) (fun _ _ _ _ _ => (pm_var 5))) (pm_lst pma_nil)) (pms_one (pms_ret pm_bl)) pms_nil)
      (pms_one (pms_ret (pm_and (pm_isB (pm_call d_is_surrounding (fun z => by cases z) (hr.mono (by omega)) (by rfl) (pma_cons (pm_var 2) pma_nil) (len_cons len_nil)) pm_bl) (pm_and (pm_isB (pm_call d_is_surrounding (fun z => by cases z) (hr.mono (by omega)) (by rfl) (pma_cons (pm_mulT T.hK (pm_tup (pma_cons (pm_tup (pma_cons pm_str (pma_cons pm_int (pma_cons (pm_var 3) pma_nil)))) pma_nil)) pm_int) pma_nil) (len_cons len_nil)) pm_bl) (pm_one (pm_isB (pm_call d_is_surrounding (fun z => by cases z) (hr.mono (by omega)) (by rfl) (pma_cons (pm_tup pma_nil) pma_nil) (len_cons len_nil)) pm_bl))))))))))))
/-! ### _law_right -/
theorem sc_l_right : FnScope ["_law_dice_here", "_law_plain", "_law_path", "_law_part", "_law_made", "_law_both", "_law_building_here", "_law_other", "_law_told", "_law_due", "_law_one", "_law_two"] ["_law_dice_here"] (defScope s_l_right) := ⟨rfl, rfl, rfl, by decide +kernel, rfl, by decide +kernel, by decide +kernel⟩
theorem ok_l_right (T : Tx K mg wo w) : DefOk false P wo K mg base w "_law_right" 1 72 fn_l_right := by
  obtain ⟨a, fd, F, hm⟩ := T.f_l_right
  have d_l_building := ok_l_building (P := P) (base := base) T 64
  have d_l_roll := ok_l_roll (P := P) (base := base) T
  have d_l_built := ok_l_built (P := P) (base := base) T 64
  have d_l_pick := ok_l_pick (P := P) (base := base) T
  obtain ⟨_, g_Building_paths, m_Building_paths⟩ := ok_Building_paths (P := P) (base := base) T
  have d_l_steps_up := ok_l_steps_up (P := P) (base := base) T
  have d_surrounding_at := ok_surrounding_at (P := P) (base := base) T
  have d_l_steps_made := ok_l_steps_made (P := P) (base := base) T
  obtain ⟨_, g_Building_uequ, m_Building_uequ⟩ := ok_Building_uequ (P := P) (base := base) T
  have d_is_surrounding := ok_is_surrounding (P := P) (base := base) T
  have d_put_into := ok_put_into (P := P) (base := base) T
  obtain ⟨_, g_Building_at, m_Building_at⟩ := ok_Building_at (P := P) (base := base) T
  obtain ⟨_, g_Building_put, m_Building_put⟩ := ok_Building_put (P := P) (base := base) T
  have d_l_steps := ok_l_steps (P := P) (base := base) T
  obtain ⟨_, g_Building_text, m_Building_text⟩ := ok_Building_text (P := P) (base := base) T
  have d_l_text := ok_l_text (P := P) (base := base) T 64
  have d_l_put := ok_l_put (P := P) (base := base) T
  obtain ⟨_, g_Building_size, m_Building_size⟩ := ok_Building_size (P := P) (base := base) T
  have d_l_leaves := ok_l_leaves (P := P) (base := base) T 64
  have d_l_near_right := ok_l_near_right (P := P) (base := base) T
  refine ⟨a, fd, ["_law_dice_here"], rfl, (show FnP false P wo K mg base (71 + 1) a fd _ _ from fn_ok0 false F sc_l_right (by decide) fun cdv A outer s H E hgu hr => ?_), hm, F.kp, (F.binds fun _ _ _ _ _ _ us hl => match us, hl with | [_], _ => rfl)⟩
  exact (pms_cons (pms_set (i := 1) sc_l_right.nd rfl (by first | exact .inl rfl | exact .inr rfl) (pm_callD 0 d_l_building (fun z => by cases z) (hr.mono (by omega)) (by rfl) (pma_cons (pm_add T.hK pm_int (pm_callD 0 d_l_roll (fun z => by cases z) (hr.mono (by omega)) (by rfl) (pma_cons pm_int pma_nil) (len_cons len_nil))) pma_nil) (len_cons len_nil)))
      (pms_cons (pms_par (i := 6) (j := 7) rfl sc_l_right.nd rfl rfl (by decide) rfl rfl (pma_cons (pm_call d_l_built (fun z => by cases z) (hr.mono (by omega)) (by rfl) (pma_cons (pm_var 1) pma_nil) (len_cons len_nil)) (pma_cons (pm_callD 0 d_l_building (fun z => by cases z) (hr.mono (by omega)) (by rfl) (pma_cons (pm_add T.hK pm_int (pm_callD 0 d_l_roll (fun z => by cases z) (hr.mono (by omega)) (by rfl) (pma_cons pm_int pma_nil) (len_cons len_nil))) pma_nil) (len_cons len_nil)) pma_nil)) (by rfl))
      (pms_cons (pms_set (i := 2) sc_l_right.nd rfl (by first | exact .inl rfl | exact .inr rfl) (pm_callD 0 d_l_pick (fun z => by cases z) (hr.mono (by omega)) (by rfl) (pma_cons (pm_list T.hK (by rfl) T.n_list (pma_cons (pm_prop T.hK g_Building_paths m_Building_paths (hr.mono (by omega)) (pm_var 6)) pma_nil)) pma_nil) (len_cons len_nil)))
      (pms_cons (pms_par (i := 8) (j := 9) rfl sc_l_right.nd rfl rfl (by decide) rfl rfl (pma_cons (pm_call d_surrounding_at (fun z => by cases z) (hr.mono (by omega)) (by rfl) (pma_cons (pm_var 6) (pma_cons (pm_var 2) pma_nil)) (len_cons (len_cons len_nil))) (pma_cons (pm_call d_l_steps_up (fun z => by cases z) (hr.mono (by omega)) (by rfl) (pma_cons (pm_var 1) (pma_cons (pm_var 2) pma_nil)) (len_cons (len_cons len_nil))) pma_nil)) (by rfl))
      (pms_cons (pms_if (PMW.pt (pmw_or (pmt_neX 3 T.hK g_Building_uequ m_Building_uequ (hr.mono (by omega)) (pm_var 8) (pm_call d_l_steps_made (fun z => by cases z) (hr.mono (by omega)) (by rfl) (pma_cons (pm_var 9) pma_nil) (len_cons len_nil))) (pmw_or1 (pmt_notB (pm_call d_is_surrounding (fun z => by cases z) (hr.mono (by omega)) (by rfl) (pma_cons (pm_var 8) pma_nil) (len_cons len_nil)) pm_bl)))) (pms_one (pms_ret pm_bl)) pms_nil)
      (pms_cons (pms_set (i := 3) sc_l_right.nd rfl (by first | exact .inl rfl | exact .inr rfl) (pm_call d_l_built (fun z => by cases z) (hr.mono (by omega)) (by rfl) (pma_cons (pm_var 7) pma_nil) (len_cons len_nil)))
      (pms_cons (pms_if (PMW.pt (pmw_or (pmt_neO T.hK g_Building_uequ m_Building_uequ (hr.mono (by omega)) (pm_call d_put_into (fun z => by cases z) (hr.mono (by omega)) (by rfl) (pma_cons (pm_var 8) (pma_cons (pm_meth T.hK g_Building_at m_Building_at (hr.mono (by omega)) (pm_var 6) (pma_cons (pm_var 2) pma_nil) (len_cons len_nil)) pma_nil)) (len_cons (len_cons len_nil))) (pm_var 6)) (pmw_or1 (pmt_neO T.hK g_Building_uequ m_Building_uequ (hr.mono (by omega)) (pm_call d_put_into (fun z => by cases z) (hr.mono (by omega)) (by rfl) (pma_cons (pm_var 8) (pma_cons (pm_var 3) pma_nil)) (len_cons (len_cons len_nil))) (pm_meth T.hK g_Building_put m_Building_put (hr.mono (by omega)) (pm_var 6) (pma_cons (pm_var 2) (pma_cons (pm_var 3) pma_nil)) (len_cons (len_cons len_nil))))))) (pms_one (pms_ret pm_bl)) pms_nil)
      (pms_cons (pms_par (i := 10) (j := 11) rfl sc_l_right.nd rfl rfl (by decide) rfl rfl (pma_cons (pm_callD 0 d_l_steps (fun z => by cases z) (hr.mono (by omega)) (by rfl) (pma_cons pm_int (pma_cons pm_int pma_nil)) (len_cons (len_cons len_nil))) (pma_cons (pm_callD 0 d_l_steps (fun z => by cases z) (hr.mono (by omega)) (by rfl) (pma_cons pm_int (pma_cons pm_int pma_nil)) (len_cons (len_cons len_nil))) pma_nil)) (by rfl))
      (pms_cons (pms_set (i := 4) sc_l_right.nd rfl (by first | exact .inl rfl | exact .inr rfl) (pm_call d_put_into (fun z => by cases z) (hr.mono (by omega)) (by rfl) (pma_cons (pm_call d_l_steps_made (fun z => by cases z) (hr.mono (by omega)) (by rfl) (pma_cons (pm_var 10) pma_nil) (len_cons len_nil)) (pma_cons (pm_var 6) pma_nil)) (len_cons (len_cons len_nil))))
      (pms_cons (pms_if (PMW.pt (pmw_or (pmt_ne T.hK hr (pm_prop T.hK g_Building_text m_Building_text (hr.mono (by omega)) (pm_var 4)) (pm_call d_l_text (fun z => by cases z) (hr.mono (by omega)) (by rfl) (pma_cons (pm_call d_l_put (fun z => by cases z) (hr.mono (by omega)) (by rfl) (pma_cons (pm_var 10) (pma_cons (pm_var 1) pma_nil)) (len_cons (len_cons len_nil))) pma_nil) (len_cons len_nil))) (pmw_or1 (pmt_ne T.hK hr (pm_prop T.hK g_Building_size m_Building_size (hr.mono (by omega)) (pm_var 4)) (pm_len T.hK (by rfl) T.n_len (pma_cons (pm_call d_l_leaves (fun z => by cases z) (hr.mono (by omega)) (by rfl) (pma_cons (pm_call d_l_put (fun z => by cases z) (hr.mono (by omega)) (by rfl) (pma_cons (pm_var 10) (pma_cons (pm_var 1) pma_nil)) (len_cons (len_cons len_nil))) pma_nil) (len_cons len_nil)) pma_nil)))))) (pms_one (pms_ret pm_bl)) pms_nil)
      (pms_cons (pms_set (i := 5) sc_l_right.nd rfl (by first | exact .inl rfl | exact .inr rfl) (pm_call d_put_into (fun z => by cases z) (hr.mono (by omega)) (by rfl) (pma_cons (pm_call d_l_steps_made (fun z => by cases z) (hr.mono (by omega)) (by rfl) (pma_cons (pm_var 11) pma_nil) (len_cons len_nil)) (pma_cons (pm_var 4) pma_nil)) (len_cons (len_cons len_nil))))
      (pms_cons (pms_if (PMW.pt (pmw_or (pmt_neO T.hK g_Building_uequ m_Building_uequ (hr.mono (by omega)) (pm_var 5) (pm_call d_put_into (fun z => by cases z) (hr.mono (by omega)) (by rfl) (pma_cons (pm_call d_l_steps_made (fun z => by cases z) (hr.mono (by omega)) (by rfl) (pma_cons (pm_add T.hK (pm_var 10) (pm_var 11)) pma_nil) (len_cons len_nil)) (pma_cons (pm_var 6) pma_nil)) (len_cons (len_cons len_nil)))) (pmw_or1 (pmt_neO T.hK g_Building_uequ m_Building_uequ (hr.mono (by omega)) (pm_call d_put_into (fun z => by cases z) (hr.mono (by omega)) (by rfl) (pma_cons (pm_tup pma_nil) (pma_cons (pm_var 6) pma_nil)) (len_cons (len_cons len_nil))) (pm_var 6))))) (pms_one (pms_ret pm_bl)) pms_nil)
      (pms_one (pms_ret (pm_and (pm_callD 0 d_l_near_right (fun z => by cases z) (hr.mono (by omega)) (by rfl) (pma_cons (pm_var 10) pma_nil) (len_cons len_nil)) (pm_one (pm_eq0 T.hK hr (pm_call d_surrounding_at (fun z => by cases z) (hr.mono (by omega)) (by rfl) (pma_cons (pm_var 6) (pma_cons (pm_tup pma_nil) pma_nil)) (len_cons (len_cons len_nil))) (pm_tup pma_nil))))))))))))))))))
/-! ### law -/
theorem sc_lawX : FnScope ["_law_script", "_law_spot", "_law_told", "_law_dice_here", "_law_turn", "_law_tie", "_law_gap"] ["_law_script"] (defScope s_lawX) := ⟨rfl, rfl, rfl, by decide +kernel, rfl, by decide +kernel, by decide +kernel⟩
theorem top_law (T : Tx K mg wo w) : ∃ a fd, mg "law" = some (.ref a) ∧ (∀ (s : Shared) (u : Value), BindsTo s fd ⟨[u], []⟩ [("_law_script", u)]) ∧ ∀ (P : Program) (base : Heap), FnP false P wo K mg base 73 a fd ["_law_script"] (spOf w 1 fn_lawX) := by
  obtain ⟨a, fd, F, hm⟩ := T.f_lawX
  refine ⟨a, fd, hm, ?_, fun P base => ?_⟩
  · obtain ⟨oc, od, kV, doc, pm, an, cdv, ct, osl, rfl, lk, hcd⟩ := F.ex
    exact fun s u => .of_eq rfl
  have d_l_dice := ok_l_dice (P := P) (base := base) T
  have d_l_right := ok_l_right (P := P) (base := base) T
  obtain ⟨_, g_Building_gap, m_Building_gap⟩ := ok_Building_gap (P := P) (base := base) T
  obtain ⟨_, g_Building_tie, m_Building_tie⟩ := ok_Building_tie (P := P) (base := base) T
  have d_surrounding_at := ok_surrounding_at (P := P) (base := base) T
  obtain ⟨_, g_Building_uoru, m_Building_uoru⟩ := ok_Building_uoru (P := P) (base := base) T
  obtain ⟨_, g_Building_uaddu, m_Building_uaddu⟩ := ok_Building_uaddu (P := P) (base := base) T
  have d_put_into := ok_put_into (P := P) (base := base) T
  obtain ⟨_, g_Building_text, m_Building_text⟩ := ok_Building_text (P := P) (base := base) T
  obtain ⟨_, g_Building_uequ, m_Building_uequ⟩ := ok_Building_uequ (P := P) (base := base) T
  refine (show FnP false P wo K mg base (72 + 1) a fd _ _ from fn_ok0 false F sc_lawX (by decide) fun cdv A outer s H E hgu hr => ?_)
  exact (pms_cons (pms_for PassesOwn.never rfl (pmi_range1 (by rfl) T.n_range (pma_cons (pm_max rfl (by rfl) T.n_max (pma_cons pm_int (pma_cons (pm_min rfl (by rfl) T.n_min (pma_cons pm_int (pma_cons (pm_len T.hK (by rfl) T.n_len (pma_cons (pm_var 0) pma_nil)) pma_nil))) pma_nil))) pma_nil)) (pmg_name (i := 1) sc_lawX.nd rfl (by first | exact .inl rfl | exact .inr rfl)) (pms_cons (pms_setO (i := 3) sc_lawX.nd rfl (by first | exact .inl rfl | exact .inr rfl) (pm_call d_l_dice (fun z => by cases z) (hr.mono (by omega)) (by rfl) (pma_cons (pm_var 0) (pma_cons (pm_var 1) pma_nil)) (len_cons (len_cons len_nil))))
      (pms_one (pms_for PassesOwn.never rfl (pmi_range1 (by rfl) T.n_range (pma_cons pm_int pma_nil)) (pmg_name (i := 4) sc_lawX.nd rfl (by first | exact .inl rfl | exact .inr rfl)) (pms_one (pms_if (pmt_not (pmt_val (pm_callD 3 d_l_right (fun z => by cases z) (hr.mono (by omega)) (by rfl) pma_nil len_nil))) (pms_one (pms_ret pm_bl)) pms_nil))))))
      (pms_cons (pms_par (i := 5) (j := 6) rfl sc_lawX.nd rfl rfl (by decide) rfl rfl (pma_cons (pm_cm0 T.hK g_Building_tie m_Building_tie (hr.mono (by omega)) (by rfl) T.c_Building) (pma_cons (pm_cm0 T.hK g_Building_gap m_Building_gap (hr.mono (by omega)) (by rfl) T.c_Building) pma_nil)) (by rfl))
      (pms_cons (pms_set (i := 2) sc_lawX.nd rfl (by first | exact .inl rfl | exact .inr rfl) (pm_lst (pma_cons (pm_prop T.hK g_Building_text m_Building_text (hr.mono (by omega)) (pm_call d_put_into (fun z => by cases z) (hr.mono (by omega)) (by rfl) (pma_cons (pm_tup (pma_cons (pm_tup (pma_cons pm_str (pma_cons pm_int (pma_cons (pm_var 5) pma_nil)))) (pma_cons (pm_tup (pma_cons pm_str (pma_cons pm_int (pma_cons (pm_var 6) pma_nil)))) pma_nil))) (pma_cons (pm_var 6) pma_nil)) (len_cons (len_cons len_nil)))) (pma_cons (pm_call d_surrounding_at (fun z => by cases z) (hr.mono (by omega)) (by rfl) (pma_cons (pm_addO T.hK g_Building_uaddu m_Building_uaddu (hr.mono (by omega)) (pm_var 5) (pm_orO T.hK g_Building_uoru m_Building_uoru (hr.mono (by omega)) (pm_var 6) (pm_var 5))) (pma_cons (pm_tup (pma_cons pm_int (pma_cons pm_int pma_nil))) pma_nil)) (len_cons (len_cons len_nil))) pma_nil))))
      (pms_one (pms_ret (pm_eqX 3 T.hK g_Building_uequ m_Building_uequ (hr.mono (by omega)) (pm_var 2) (pm_lst (pma_cons pm_str (pma_cons (pm_tup (pma_cons (pm_tup (pma_cons pm_str (pma_cons pm_int (pma_cons (pm_var 5) pma_nil)))) (pma_cons (pm_tup (pma_cons pm_str (pma_cons pm_int (pma_cons (pm_var 5) pma_nil)))) pma_nil))) pma_nil)))))))))
end
end PM.G

namespace PM.G
open PySem PySem.Spec PyProof.Rows L2 PM
def cs0 : List Chk := [sclsB "Building",
  sisiB "Building",
  freeB "abs",
  freeB "all",
  freeB "bool",
  freeB "enumerate",
  freeB "int",
  freeB "isinstance",
  freeB "len",
  freeB "list",
  freeB "max",
  freeB "min",
  freeB "range",
  freeB "str",
  freeB "tuple",
  intB "GREAT" 1000000000000000000000000000000000000000000000000000000000000,
  intB "MAX_LEAVES" 60,
  intB "MAX_STEPS" 60,
  strB "GAP" "gap",
  strB "ROW_around" "row",
  strB "ROW_buildings" "row",
  strB "SIDE_around" "side",
  strB "SIDE_buildings" "side",
  strB "TIE" "tie",
  gloB "LOST",
  valB "LOST" "row" (.int 1),
  valB "LOST" "side" (.int 2),
  gloB "SIGNS",
  valB "SIGNS" "row" (.str " + "),
  valB "SIGNS" "side" (.str " | ")]
def cs1 : List Chk := [gloB "Building",
  kitB (.inl "NoneType") (.inr "Building") false,
  kitB (.inl "bool") (.inr "Building") false,
  kitB (.inl "int") (.inr "Building") false,
  kitB (.inl "str") (.inr "Building") false,
  kitB (.inl "tuple") (.inr "Building") false,
  kitB (.inl "list") (.inr "Building") false,
  kitB (.inl "dict") (.inr "Building") false,
  kitB (.inr "Building") (.inr "Building") true,
  kitB (.inl "NoneType") (.inl "bool") false,
  kitB (.inl "bool") (.inl "bool") true,
  kitB (.inl "int") (.inl "bool") false,
  kitB (.inl "str") (.inl "bool") false,
  kitB (.inl "tuple") (.inl "bool") false,
  kitB (.inl "list") (.inl "bool") false,
  kitB (.inl "dict") (.inl "bool") false,
  kitB (.inr "Building") (.inl "bool") false,
  kitB (.inl "NoneType") (.inl "int") false,
  kitB (.inl "bool") (.inl "int") true,
  kitB (.inl "int") (.inl "int") true,
  kitB (.inl "str") (.inl "int") false,
  kitB (.inl "tuple") (.inl "int") false,
  kitB (.inl "list") (.inl "int") false,
  kitB (.inl "dict") (.inl "int") false,
  kitB (.inr "Building") (.inl "int") false,
  kitB (.inl "NoneType") (.inl "str") false,
  kitB (.inl "bool") (.inl "str") false,
  kitB (.inl "int") (.inl "str") false,
  kitB (.inl "str") (.inl "str") true,
  kitB (.inl "tuple") (.inl "str") false]
def cs2 : List Chk := [kitB (.inl "list") (.inl "str") false,
  kitB (.inl "dict") (.inl "str") false,
  kitB (.inr "Building") (.inl "str") false,
  kitB (.inl "NoneType") (.inl "tuple") false,
  kitB (.inl "bool") (.inl "tuple") false,
  kitB (.inl "int") (.inl "tuple") false,
  kitB (.inl "str") (.inl "tuple") false,
  kitB (.inl "tuple") (.inl "tuple") true,
  kitB (.inl "list") (.inl "tuple") false,
  kitB (.inl "dict") (.inl "tuple") false,
  kitB (.inr "Building") (.inl "tuple") false,
  slotB "Building" "own_leaves" 0,
  slotB "Building" "own_many" 1,
  slotB "Building" "own_parts" 2,
  slotB "Building" "own_size" 3,
  slotB "Building" "own_text" 4,
  slotB "Building" "word" 5,
  gloB "_law_dice",
  gloB "_law_roll",
  gloB "_law_building",
  mkB "Building",
  cmB "Building" "tie",
  cmB "Building" "gap",
  gloB "require_leaves",
  gloB "joined_building",
  opB "Building" "__add__",
  opB "Building" "__or__",
  gloB "_law_built",
  gloB "_law_pick",
  gloB "paths_below"]
def cs3 : List Chk := [propB "Building" "paths",
  gloB "_law_steps_up",
  gloB "require_a_building",
  gloB "is_whole",
  gloB "is_integer",
  gloB "is_count",
  gloB "part_at",
  methB "Building" "at",
  propB "Building" "parts",
  gloB "surrounding_at",
  gloB "_law_steps_made",
  eqB "Building",
  gloB "is_step",
  gloB "is_surrounding",
  gloB "require_surrounding",
  gloB "step_taken",
  gloB "put_into",
  gloB "require_building",
  gloB "with_part",
  methB "Building" "put",
  gloB "_law_steps",
  propB "Building" "text",
  gloB "_law_text",
  gloB "_law_put",
  propB "Building" "size",
  gloB "_law_leaves",
  gloB "_law_near_right",
  gloB "_law_right",
  gloB "law"]
def cs : List Chk := cs0 ++ cs1 ++ cs2 ++ cs3
def fns0 : List DfM := [⟨gloAt "_law_dice", "_law_dice", "_law_dice", s_l_dice⟩,
  ⟨gloAt "_law_roll", "_law_roll", "_law_roll", s_l_roll⟩,
  ⟨gloAt "_law_building", "_law_building", "_law_building", s_l_building⟩,
  ⟨metAt "Building" "__init__", "__init__", "Building.__init__", s_Building_uinitu⟩,
  ⟨cmAt "Building" "tie", "tie", "Building.tie", s_Building_tie⟩,
  ⟨cmAt "Building" "gap", "gap", "Building.gap", s_Building_gap⟩,
  ⟨gloAt "require_leaves", "require_leaves", "require_leaves", s_require_leaves⟩,
  ⟨gloAt "joined_building", "joined_building", "joined_building", s_joined_building⟩,
  ⟨metAt "Building" "__add__", "__add__", "Building.__add__", s_Building_uaddu⟩,
  ⟨metAt "Building" "__or__", "__or__", "Building.__or__", s_Building_uoru⟩,
  ⟨gloAt "_law_built", "_law_built", "_law_built", s_l_built⟩,
  ⟨gloAt "_law_pick", "_law_pick", "_law_pick", s_l_pick⟩,
  ⟨gloAt "paths_below", "paths_below", "paths_below", s_paths_below⟩,
  ⟨propAt "Building" "paths", "paths", "Building.paths", s_Building_paths⟩,
  ⟨gloAt "_law_steps_up", "_law_steps_up", "_law_steps_up", s_l_steps_up⟩,
  ⟨gloAt "require_a_building", "require_a_building", "require_a_building", s_require_a_building⟩,
  ⟨gloAt "is_whole", "is_whole", "is_whole", s_is_whole⟩,
  ⟨gloAt "is_integer", "is_integer", "is_integer", s_is_integer⟩,
  ⟨gloAt "is_count", "is_count", "is_count", s_is_count⟩,
  ⟨gloAt "part_at", "part_at", "part_at", s_part_at⟩,
  ⟨metAt "Building" "at", "at", "Building.at", s_Building_at⟩,
  ⟨propAt "Building" "parts", "parts", "Building.parts", s_Building_parts⟩,
  ⟨gloAt "surrounding_at", "surrounding_at", "surrounding_at", s_surrounding_at⟩,
  ⟨gloAt "_law_steps_made", "_law_steps_made", "_law_steps_made", s_l_steps_made⟩,
  ⟨metAt "Building" "__eq__", "__eq__", "Building.__eq__", s_Building_uequ⟩,
  ⟨gloAt "is_step", "is_step", "is_step", s_is_step⟩,
  ⟨gloAt "is_surrounding", "is_surrounding", "is_surrounding", s_is_surrounding⟩,
  ⟨gloAt "require_surrounding", "require_surrounding", "require_surrounding", s_require_surrounding⟩,
  ⟨gloAt "step_taken", "step_taken", "step_taken", s_step_taken⟩,
  ⟨gloAt "put_into", "put_into", "put_into", s_put_into⟩]
def fns1 : List DfM := [⟨gloAt "require_building", "require_building", "require_building", s_require_building⟩,
  ⟨gloAt "with_part", "with_part", "with_part", s_with_part⟩,
  ⟨metAt "Building" "put", "put", "Building.put", s_Building_put⟩,
  ⟨gloAt "_law_steps", "_law_steps", "_law_steps", s_l_steps⟩,
  ⟨propAt "Building" "text", "text", "Building.text", s_Building_text⟩,
  ⟨gloAt "_law_text", "_law_text", "_law_text", s_l_text⟩,
  ⟨gloAt "_law_put", "_law_put", "_law_put", s_l_put⟩,
  ⟨propAt "Building" "size", "size", "Building.size", s_Building_size⟩,
  ⟨gloAt "_law_leaves", "_law_leaves", "_law_leaves", s_l_leaves⟩,
  ⟨gloAt "_law_near_right", "_law_near_right", "_law_near_right", s_l_near_right⟩,
  ⟨gloAt "_law_right", "_law_right", "_law_right", s_l_right⟩,
  ⟨gloAt "law", "law", "law", s_lawX⟩]
def fns : List DfM := fns0 ++ fns1
def tabs : List He.Tab := [(gloAt "LOST", ["row", "side"]), (gloAt "SIGNS", ["row", "side"])]
def names0 : List PySem.Str := ["_wall",
  "SeamError",
  "InvalidBuilding",
  "InvalidPath",
  "InvalidSurrounding",
  "TooMany",
  "GREAT",
  "is_whole",
  "is_integer",
  "is_count",
  "MAX_LEAVES",
  "TIE",
  "GAP",
  "ROW_buildings",
  "SIDE_buildings",
  "SIGNS",
  "LOST",
  "require_leaves",
  "Building",
  "require_building",
  "joined_building",
  "paths_below",
  "part_at",
  "with_part",
  "MAX_STEPS",
  "ROW_around",
  "SIDE_around",
  "is_step",
  "is_surrounding",
  "require_surrounding"]
def names1 : List PySem.Str := ["require_a_building",
  "step_taken",
  "put_into",
  "surrounding_at",
  "_law_dice",
  "_law_roll",
  "_law_pick",
  "_law_building",
  "_law_leaves",
  "_law_text",
  "_law_built",
  "_law_steps",
  "_law_put",
  "_law_steps_made",
  "_law_steps_up",
  "_law_near_right",
  "_law_right"]
def names : List PySem.Str := names0 ++ names1
abbrev R : PySem.W.OpenRow := PySem.W.OpenLaw.row PySem.Challenge.rw_seamsayings_k58_whole_surroundings
abbrev hk : PySem.W.Hook := hookM 5 cs fns tabs
def ob (s : PySem.W.SharedT) : AlM := obsMG 5 cs fns tabs (HandSHeadRun.getT s)
theorem ob_eq (s : PySem.W.SharedT) : ob s = hk.obs s.abs := obsMG_eq (HandSHeadRun.getT_eq s)
def clOf (K : PySem.W.Frag) : Nat → Addr
  | 0 => He.ga K "Building"
  | _ => 0
abbrev wd (K : PySem.W.Frag) : Wd := ⟨K, clOf K⟩
theorem tx {K : PySem.W.Frag} {hp : Heap} {mg : Str → Option Value} {wo : World} (X : K.In hp) (G : hp.Ns mainGlobals mg) (c : SaysM cs fns tabs wo K) : Tx K mg wo (wd K) where
  hK := rfl
  cok := ⟨fun cc hc => by
      match cc, hc with
      | 0, _ => exact sclsB_ok (c.fact 0)
      | n + 1, hc => exact absurd hc (by omega), fun cc hc => by
      match cc, hc with
      | 0, _ => exact sisiB_ok (c.fact 1)
      | n + 1, hc => exact absurd hc (by omega)⟩
  n_abs := He.free_ok X G (c.fact 2)
  n_all := He.free_ok X G (c.fact 3)
  n_bool := He.free_ok X G (c.fact 4)
  n_enumerate := He.free_ok X G (c.fact 5)
  n_int := He.free_ok X G (c.fact 6)
  n_isinstance := He.free_ok X G (c.fact 7)
  n_len := He.free_ok X G (c.fact 8)
  n_list := He.free_ok X G (c.fact 9)
  n_max := He.free_ok X G (c.fact 10)
  n_min := He.free_ok X G (c.fact 11)
  n_range := He.free_ok X G (c.fact 12)
  n_str := He.free_ok X G (c.fact 13)
  n_tuple := He.free_ok X G (c.fact 14)
  i_GREAT := He.int_ok X G (c.fact 15)
  i_MAX_LEAVES := He.int_ok X G (c.fact 16)
  i_MAX_STEPS := He.int_ok X G (c.fact 17)
  i_GAP := He.str_ok X G (c.fact 18)
  i_ROW_around := He.str_ok X G (c.fact 19)
  i_ROW_buildings := He.str_ok X G (c.fact 20)
  i_SIDE_around := He.str_ok X G (c.fact 21)
  i_SIDE_buildings := He.str_ok X G (c.fact 22)
  i_TIE := He.str_ok X G (c.fact 23)
  t_LOST := ⟨He.ga K "LOST", He.glo_ok X G (c.fact 24), fun z d e => by
      unfold tab_LOST at e
      split at e
      · rename_i hz
        cases e
        subst hz
        exact ⟨_, valB_ok (c.tab 0) (c.fact 25), fun O H => by simp only [Rep]; rfl⟩
      ·
        split at e
        · rename_i hz
          cases e
          subst hz
          exact ⟨_, valB_ok (c.tab 0) (c.fact 26), fun O H => by simp only [Rep]; rfl⟩
        · cases e⟩
  t_SIGNS := ⟨He.ga K "SIGNS", He.glo_ok X G (c.fact 27), fun z d e => by
      unfold tab_SIGNS at e
      split at e
      · rename_i hz
        cases e
        subst hz
        exact ⟨_, valB_ok (c.tab 1) (c.fact 28), fun O H => by simp only [Rep]; rfl⟩
      ·
        split at e
        · rename_i hz
          cases e
          subst hz
          exact ⟨_, valB_ok (c.tab 1) (c.fact 29), fun O H => by simp only [Rep]; rfl⟩
        · cases e⟩
  c_Building := He.glo_ok X G (c.fact 30)
  isi_Building := fun t b e => by
      unfold ans_Building at e
      split at e
      · cases e; exact kitB_ok (c.fact 31)
      · cases e; exact kitB_ok (c.fact 32)
      · cases e; exact kitB_ok (c.fact 33)
      · cases e; exact kitB_ok (c.fact 34)
      · cases e; exact kitB_ok (c.fact 35)
      · cases e; exact kitB_ok (c.fact 36)
      · cases e; exact kitB_ok (c.fact 37)
      · cases e; exact kitB_ok (c.fact 38)
      · cases e
  isi_bool := fun t b e => by
      unfold ans_bool at e
      split at e
      · cases e; exact kitB_ok (c.fact 39)
      · cases e; exact kitB_ok (c.fact 40)
      · cases e; exact kitB_ok (c.fact 41)
      · cases e; exact kitB_ok (c.fact 42)
      · cases e; exact kitB_ok (c.fact 43)
      · cases e; exact kitB_ok (c.fact 44)
      · cases e; exact kitB_ok (c.fact 45)
      · cases e; exact kitB_ok (c.fact 46)
      · cases e
  isi_int := fun t b e => by
      unfold ans_int at e
      split at e
      · cases e; exact kitB_ok (c.fact 47)
      · cases e; exact kitB_ok (c.fact 48)
      · cases e; exact kitB_ok (c.fact 49)
      · cases e; exact kitB_ok (c.fact 50)
      · cases e; exact kitB_ok (c.fact 51)
      · cases e; exact kitB_ok (c.fact 52)
      · cases e; exact kitB_ok (c.fact 53)
      · cases e; exact kitB_ok (c.fact 54)
      · cases e
  isi_str := fun t b e => by
      unfold ans_str at e
      split at e
      · cases e; exact kitB_ok (c.fact 55)
      · cases e; exact kitB_ok (c.fact 56)
      · cases e; exact kitB_ok (c.fact 57)
      · cases e; exact kitB_ok (c.fact 58)
      · cases e; exact kitB_ok (c.fact 59)
      · cases e; exact kitB_ok (c.fact 60)
      · cases e; exact kitB_ok (c.fact 61)
      · cases e; exact kitB_ok (c.fact 62)
      · cases e
  isi_tuple := fun t b e => by
      unfold ans_tuple at e
      split at e
      · cases e; exact kitB_ok (c.fact 63)
      · cases e; exact kitB_ok (c.fact 64)
      · cases e; exact kitB_ok (c.fact 65)
      · cases e; exact kitB_ok (c.fact 66)
      · cases e; exact kitB_ok (c.fact 67)
      · cases e; exact kitB_ok (c.fact 68)
      · cases e; exact kitB_ok (c.fact 69)
      · cases e; exact kitB_ok (c.fact 70)
      · cases e
  sl_own_leaves := fun c i e => by
      unfold ix_own_leaves at e
      split at e
      · cases e; exact ⟨sclsB_ok (c.fact 0), slotB_ok (c.fact 71)⟩
      · cases e
  sl_own_many := fun c i e => by
      unfold ix_own_many at e
      split at e
      · cases e; exact ⟨sclsB_ok (c.fact 0), slotB_ok (c.fact 72)⟩
      · cases e
  sl_own_parts := fun c i e => by
      unfold ix_own_parts at e
      split at e
      · cases e; exact ⟨sclsB_ok (c.fact 0), slotB_ok (c.fact 73)⟩
      · cases e
  sl_own_size := fun c i e => by
      unfold ix_own_size at e
      split at e
      · cases e; exact ⟨sclsB_ok (c.fact 0), slotB_ok (c.fact 74)⟩
      · cases e
  sl_own_text := fun c i e => by
      unfold ix_own_text at e
      split at e
      · cases e; exact ⟨sclsB_ok (c.fact 0), slotB_ok (c.fact 75)⟩
      · cases e
  sl_word := fun c i e => by
      unfold ix_word at e
      split at e
      · cases e; exact ⟨sclsB_ok (c.fact 0), slotB_ok (c.fact 76)⟩
      · cases e
  st_own_leaves := ⟨sclsB_ok (c.fact 0), slotB_ok (c.fact 71)⟩
  st_own_many := ⟨sclsB_ok (c.fact 0), slotB_ok (c.fact 72)⟩
  st_own_parts := ⟨sclsB_ok (c.fact 0), slotB_ok (c.fact 73)⟩
  st_own_size := ⟨sclsB_ok (c.fact 0), slotB_ok (c.fact 74)⟩
  st_own_text := ⟨sclsB_ok (c.fact 0), slotB_ok (c.fact 75)⟩
  st_word := ⟨sclsB_ok (c.fact 0), slotB_ok (c.fact 76)⟩
  f_l_dice := by
      obtain ⟨fd, F⟩ := c.def_ 0
      exact ⟨_, fd, F, He.glo_ok X G (c.fact 77)⟩
  f_l_roll := by
      obtain ⟨fd, F⟩ := c.def_ 1
      exact ⟨_, fd, F, He.glo_ok X G (c.fact 78)⟩
  f_l_building := by
      obtain ⟨fd, F⟩ := c.def_ 2
      exact ⟨_, fd, F, He.glo_ok X G (c.fact 79)⟩
  f_Building_uinitu := by
      obtain ⟨fd, F⟩ := c.def_ 3
      exact ⟨_, fd, F, mkB_ok rfl (c.fact 80)⟩
  f_Building_tie := by
      obtain ⟨fd, F⟩ := c.def_ 4
      exact ⟨_, fd, F, cmB_ok rfl rfl (c.fact 81)⟩
  f_Building_gap := by
      obtain ⟨fd, F⟩ := c.def_ 5
      exact ⟨_, fd, F, cmB_ok rfl rfl (c.fact 82)⟩
  f_require_leaves := by
      obtain ⟨fd, F⟩ := c.def_ 6
      exact ⟨_, fd, F, He.glo_ok X G (c.fact 83)⟩
  f_joined_building := by
      obtain ⟨fd, F⟩ := c.def_ 7
      exact ⟨_, fd, F, He.glo_ok X G (c.fact 84)⟩
  f_Building_uaddu := by
      obtain ⟨fd, F⟩ := c.def_ 8
      exact ⟨_, fd, F, opB_ok rfl rfl (c.fact 85)⟩
  f_Building_uoru := by
      obtain ⟨fd, F⟩ := c.def_ 9
      exact ⟨_, fd, F, opB_ok rfl rfl (c.fact 86)⟩
  f_l_built := by
      obtain ⟨fd, F⟩ := c.def_ 10
      exact ⟨_, fd, F, He.glo_ok X G (c.fact 87)⟩
  f_l_pick := by
      obtain ⟨fd, F⟩ := c.def_ 11
      exact ⟨_, fd, F, He.glo_ok X G (c.fact 88)⟩
  f_paths_below := by
      obtain ⟨fd, F⟩ := c.def_ 12
      exact ⟨_, fd, F, He.glo_ok X G (c.fact 89)⟩
  f_Building_paths := by
      obtain ⟨fd, F⟩ := c.def_ 13
      exact ⟨_, fd, F, propB_ok rfl rfl (c.fact 90) (c.fact 0)⟩
  f_l_steps_up := by
      obtain ⟨fd, F⟩ := c.def_ 14
      exact ⟨_, fd, F, He.glo_ok X G (c.fact 91)⟩
  f_require_a_building := by
      obtain ⟨fd, F⟩ := c.def_ 15
      exact ⟨_, fd, F, He.glo_ok X G (c.fact 92)⟩
  f_is_whole := by
      obtain ⟨fd, F⟩ := c.def_ 16
      exact ⟨_, fd, F, He.glo_ok X G (c.fact 93)⟩
  f_is_integer := by
      obtain ⟨fd, F⟩ := c.def_ 17
      exact ⟨_, fd, F, He.glo_ok X G (c.fact 94)⟩
  f_is_count := by
      obtain ⟨fd, F⟩ := c.def_ 18
      exact ⟨_, fd, F, He.glo_ok X G (c.fact 95)⟩
  f_part_at := by
      obtain ⟨fd, F⟩ := c.def_ 19
      exact ⟨_, fd, F, He.glo_ok X G (c.fact 96)⟩
  f_Building_at := by
      obtain ⟨fd, F⟩ := c.def_ 20
      exact ⟨_, fd, F, methB_ok rfl rfl (c.fact 97) (c.fact 0)⟩
  f_Building_parts := by
      obtain ⟨fd, F⟩ := c.def_ 21
      exact ⟨_, fd, F, propB_ok rfl rfl (c.fact 98) (c.fact 0)⟩
  f_surrounding_at := by
      obtain ⟨fd, F⟩ := c.def_ 22
      exact ⟨_, fd, F, He.glo_ok X G (c.fact 99)⟩
  f_l_steps_made := by
      obtain ⟨fd, F⟩ := c.def_ 23
      exact ⟨_, fd, F, He.glo_ok X G (c.fact 100)⟩
  f_Building_uequ := by
      obtain ⟨fd, F⟩ := c.def_ 24
      exact ⟨_, fd, F, eqB_ok rfl rfl (c.fact 101)⟩
  f_is_step := by
      obtain ⟨fd, F⟩ := c.def_ 25
      exact ⟨_, fd, F, He.glo_ok X G (c.fact 102)⟩
  f_is_surrounding := by
      obtain ⟨fd, F⟩ := c.def_ 26
      exact ⟨_, fd, F, He.glo_ok X G (c.fact 103)⟩
  f_require_surrounding := by
      obtain ⟨fd, F⟩ := c.def_ 27
      exact ⟨_, fd, F, He.glo_ok X G (c.fact 104)⟩
  f_step_taken := by
      obtain ⟨fd, F⟩ := c.def_ 28
      exact ⟨_, fd, F, He.glo_ok X G (c.fact 105)⟩
  f_put_into := by
      obtain ⟨fd, F⟩ := c.def_ 29
      exact ⟨_, fd, F, He.glo_ok X G (c.fact 106)⟩
  f_require_building := by
      obtain ⟨fd, F⟩ := c.def_ 30
      exact ⟨_, fd, F, He.glo_ok X G (c.fact 107)⟩
  f_with_part := by
      obtain ⟨fd, F⟩ := c.def_ 31
      exact ⟨_, fd, F, He.glo_ok X G (c.fact 108)⟩
  f_Building_put := by
      obtain ⟨fd, F⟩ := c.def_ 32
      exact ⟨_, fd, F, methB_ok rfl rfl (c.fact 109) (c.fact 0)⟩
  f_l_steps := by
      obtain ⟨fd, F⟩ := c.def_ 33
      exact ⟨_, fd, F, He.glo_ok X G (c.fact 110)⟩
  f_Building_text := by
      obtain ⟨fd, F⟩ := c.def_ 34
      exact ⟨_, fd, F, propB_ok rfl rfl (c.fact 111) (c.fact 0)⟩
  f_l_text := by
      obtain ⟨fd, F⟩ := c.def_ 35
      exact ⟨_, fd, F, He.glo_ok X G (c.fact 112)⟩
  f_l_put := by
      obtain ⟨fd, F⟩ := c.def_ 36
      exact ⟨_, fd, F, He.glo_ok X G (c.fact 113)⟩
  f_Building_size := by
      obtain ⟨fd, F⟩ := c.def_ 37
      exact ⟨_, fd, F, propB_ok rfl rfl (c.fact 114) (c.fact 0)⟩
  f_l_leaves := by
      obtain ⟨fd, F⟩ := c.def_ 38
      exact ⟨_, fd, F, He.glo_ok X G (c.fact 115)⟩
  f_l_near_right := by
      obtain ⟨fd, F⟩ := c.def_ 39
      exact ⟨_, fd, F, He.glo_ok X G (c.fact 116)⟩
  f_l_right := by
      obtain ⟨fd, F⟩ := c.def_ 40
      exact ⟨_, fd, F, He.glo_ok X G (c.fact 117)⟩
  f_lawX := by
      obtain ⟨fd, F⟩ := c.def_ 41
      exact ⟨_, fd, F, He.glo_ok X G (c.fact 118)⟩
set_option maxHeartbeats 0 in
theorem runF (w : World) : HandSHeadRun.RunEq R (PySem.W.view R.prog [52]) hk ob 8000 names (w.withFollow "special-get-raises" false) := by
  intro os
  kernel_rfl
set_option maxHeartbeats 0 in
theorem runT (w : World) : HandSHeadRun.RunEq R (PySem.W.view R.prog [52]) hk ob 8000 names (w.withFollow "special-get-raises" true) := by
  intro os
  kernel_rfl
theorem run (w : World) : HandSHeadRun.RunEq R (PySem.W.view R.prog [52]) hk ob 8000 names w := PySem.W.byRow2 "special-get-raises" (P := fun w => HandSHeadRun.RunEq R (PySem.W.view R.prog [52]) hk ob 8000 names w) runF runT w
end PM.G

namespace PM.G
open PySem PySem.Spec L2 PM
open PySem.PyData (strOk)
/-! ### plain buildings -/
inductive T where
  | leaf (tie : Bool)
  | node (row : Bool) (a b : T)
  deriving DecidableEq
namespace T
def leaves : T → Nat
  | .leaf _ => 1
  | .node _ a b => a.leaves + b.leaves
theorem pos : ∀ t : T, 1 ≤ t.leaves
  | .leaf _ => Nat.le_refl _
  | .node _ a b => by have := a.pos; simp only [leaves]; omega
def word : T → Str
  | .leaf true => "tie"
  | .leaf false => "gap"
  | .node true _ _ => "row"
  | .node false _ _ => "side"
def sign : Bool → Str
  | true => " + "
  | false => " | "
def text : T → Str
  | .leaf true => "tie"
  | .leaf false => "gap"
  | .node r a b => "(" ++ a.text ++ sign r ++ b.text ++ ")"
def plain : T → D
  | .leaf true => .str "tie"
  | .leaf false => .str "gap"
  | .node true a b => .tup [.str "row", a.plain, b.plain]
  | .node false a b => .tup [.str "side", a.plain, b.plain]
def many : T → Int
  | .leaf _ => 2
  | .node true a b => a.many + b.many - 1
  | .node false a b => a.many + b.many - 2
end T
theorem lenT (x : List D) : lenD (.tup x) = some (dI (x.length : Nat)) := rfl
theorem lenL (x : List D) : lenD (.lst x) = some (dI (x.length : Nat)) := rfl
theorem lenSc (x : List D) : lenD (.scr x) = some (dI (x.length : Nat)) := rfl
theorem isSs (x : Str) : isD 1 ans_str (.str x) = some (dB true) := rfl
theorem isSt (x : List D) : isD 1 ans_str (.tup x) = some (dB false) := rfl
theorem isTt (x : List D) : isD 1 ans_tuple (.tup x) = some (dB true) := rfl
theorem isTs (x : Str) : isD 1 ans_tuple (.str x) = some (dB false) := rfl
theorem isIi (x : Int) : isD 1 ans_int (.int x) = some (dB true) := rfl
theorem isBi (x : Int) : isD 1 ans_bool (.int x) = some (dB false) := rfl
theorem len_app (a b : Str) : (a ++ b).length = a.length + b.length := by
  show (a.cps ++ b.cps).size = a.cps.size + b.cps.size
  exact Array.size_append
theorem l1 : Str.length "(" = 1 := by decide +kernel
theorem l2 : Str.length ")" = 1 := by decide +kernel
theorem l3 : Str.length " + " = 3 := by decide +kernel
theorem l4 : Str.length " | " = 3 := by decide +kernel
theorem l5 : Str.length "tie" = 3 := by decide +kernel
theorem l6 : Str.length "gap" = 3 := by decide +kernel
theorem l7 (r : Bool) : (T.sign r).length = 3 := by cases r <;> decide +kernel
theorem text_len : ∀ t : T, t.text.length + 5 = 8 * t.leaves
  | .leaf true => by simp only [T.text, T.leaves, l5]
  | .leaf false => by simp only [T.text, T.leaves, l6]
  | .node r a b => by
    have h1 := text_len a
    have h2 := text_len b
    simp only [T.text, T.leaves, len_app, l1, l2, l7]
    omega
theorem strOk_app {a b : Str} (h : strOk a = true) (h' : strOk b = true) : strOk (a ++ b) = true := by
  show ((a.cps ++ b.cps).all _) = true
  rw [Array.all_append]
  exact Bool.and_eq_true_iff.mpr ⟨h, h'⟩
theorem strOk_sign (r : Bool) : strOk (T.sign r) = true := by cases r <;> decide +kernel
theorem strOk_text : ∀ t : T, strOk t.text = true
  | .leaf true => by decide +kernel
  | .leaf false => by decide +kernel
  | .node r a b => by
    unfold T.text
    exact strOk_app (strOk_app (strOk_app (strOk_app (by decide +kernel) (strOk_text a)) (strOk_sign r)) (strOk_text b)) (by decide +kernel)
theorem pyOk_str {x : Str} (h : strOk x = true) : pyOk (.str x) = some (.str x) := by
  unfold pyOk
  simp only [toPy, Option.bind_some]
  rw [if_pos]
  unfold SeqAt.shaped
  simp only [PyData.canLay0, PyData.depth, h, Bool.true_and]
  rfl
theorem eqD_str {x y : Str} (h : strOk x = true) (h' : strOk y = true) : eqD (.str x) (.str y) = some (dB (x == y)) := by
  unfold eqD
  rw [pyOk_str h, pyOk_str h']
  rfl
theorem neD_str {x y : Str} (h : strOk x = true) (h' : strOk y = true) : neD (.str x) (.str y) = some (dB (!(x == y))) := by
  unfold neD
  rw [pyOk_str h, pyOk_str h']
  rfl
theorem q1 : eqD (.str "row") (.str "row") = some (dB true) := by rw [eqD_str (by decide +kernel) (by decide +kernel)]; congr 2
theorem q2 : eqD (.str "side") (.str "row") = some (dB false) := by
  rw [eqD_str (by decide +kernel) (by decide +kernel)]
  have : ((("side" : Str) == ("row" : Str)) = false) := by decide +kernel
  rw [this]
theorem q3 : eqD (.str "tie") (.str "tie") = some (dB true) := by rw [eqD_str (by decide +kernel) (by decide +kernel)]; congr 2
theorem q4 : eqD (.str "gap") (.str "tie") = some (dB false) := by
  rw [eqD_str (by decide +kernel) (by decide +kernel)]
  have : ((("gap" : Str) == ("tie" : Str)) = false) := by decide +kernel
  rw [this]
theorem big : sizeLine = 16777216 := rfl
theorem at0 {α : Type} (x : α) (xs : List α) : atI (x :: xs) 0 = some x := by simp [atI, ixN]
theorem at1 {α : Type} (x y : α) (xs : List α) : atI (x :: y :: xs) 1 = some y := by
  have : (1 : Int) < (xs.length : Int) + 1 + 1 := by omega
  simp [atI, ixN, this]
theorem at2 {α : Type} (x y z : α) (xs : List α) : atI (x :: y :: z :: xs) 2 = some z := by
  have : (2 : Int) < (xs.length : Int) + 1 + 1 + 1 := by omega
  simp [atI, ixN, this]
theorem text_ok : ∀ (t : T) (n : Nat), t.leaves ≤ n → t.leaves ≤ 60 → fn_l_text n none [t.plain] = .ret (dS t.text) none
  | .leaf b, 0, h, _ => by simp [T.leaves] at h
  | .node r a b, 0, h, _ => by have := T.pos (.node r a b); omega
  | .leaf true, n + 1, _, _ => by simp only [fn_l_text, m_l_text, T.plain, T.text, noX, fnSem, en0, pre0, ioOf, mSeq, mIfS, mRet, mRetN, mAsg, mAsgO, mExpr, mNext, mDead, mTest, mAnd, mOr, mNot, mIf, mAndV, mOrV, mNotV, notD, mChain, mOp1, mOp2, mC, mVar, mCall, mCons, mNil, mTup, mLst, mStar, mCallV, mCallD, mPar, mAsgG, gT, gTs, gN, setV, notIo, nxt, Rs.bind, lift, asB, one1, two1, ixD, addD, subD, lenT, lenL, lenSc, tupD, intD, eq0, dI, dB, dS, List.length_cons, List.length_nil, List.map_cons, List.map_nil, List.append_nil, List.nil_append, List.cons_append, List.getElem?_cons_zero, List.getElem?_cons_succ, List.set_cons_zero, List.set_cons_succ, List.replicate, Option.bind_some, Option.map_some, Option.bind, Nat.zero_add, Nat.add_zero, Nat.reduceAdd, Nat.reduceSub, Nat.reduceEqDiff, if_true, if_false, reduceIte, Bool.false_eq_true, Bool.not_true, Bool.not_false, isSs, isSt, isTt, isTs, isIi, isBi, Nat.reduceLT, decide_true, decide_false, mSetF, clsAt, fldS, muOf, Sl.get, Sl.put, putD, mSetFs, fldsT, fldsS, allS, mMake, mMakeL, mCm, fnN, mJs, itSeq, mMeth, beq_self_eq_true, and_self, List.isEmpty_nil, List.isEmpty_cons, Option.map, big, Nat.reduceLeDiff, Nat.zero_le, Nat.le_refl]
  | .leaf false, n + 1, _, _ => by simp only [fn_l_text, m_l_text, T.plain, T.text, noX, fnSem, en0, pre0, ioOf, mSeq, mIfS, mRet, mRetN, mAsg, mAsgO, mExpr, mNext, mDead, mTest, mAnd, mOr, mNot, mIf, mAndV, mOrV, mNotV, notD, mChain, mOp1, mOp2, mC, mVar, mCall, mCons, mNil, mTup, mLst, mStar, mCallV, mCallD, mPar, mAsgG, gT, gTs, gN, setV, notIo, nxt, Rs.bind, lift, asB, one1, two1, ixD, addD, subD, lenT, lenL, lenSc, tupD, intD, eq0, dI, dB, dS, List.length_cons, List.length_nil, List.map_cons, List.map_nil, List.append_nil, List.nil_append, List.cons_append, List.getElem?_cons_zero, List.getElem?_cons_succ, List.set_cons_zero, List.set_cons_succ, List.replicate, Option.bind_some, Option.map_some, Option.bind, Nat.zero_add, Nat.add_zero, Nat.reduceAdd, Nat.reduceSub, Nat.reduceEqDiff, if_true, if_false, reduceIte, Bool.false_eq_true, Bool.not_true, Bool.not_false, isSs, isSt, isTt, isTs, isIi, isBi, Nat.reduceLT, decide_true, decide_false, mSetF, clsAt, fldS, muOf, Sl.get, Sl.put, putD, mSetFs, fldsT, fldsS, allS, mMake, mMakeL, mCm, fnN, mJs, itSeq, mMeth, beq_self_eq_true, and_self, List.isEmpty_nil, List.isEmpty_cons, Option.map, big, Nat.reduceLeDiff, Nat.zero_le, Nat.le_refl]
  | .node r a b, n + 1, h, h6 => by
    have pa := a.pos
    have pb := b.pos
    simp only [T.leaves] at h h6
    have ia := text_ok a n (by omega) (by omega)
    have ib := text_ok b n (by omega) (by omega)
    have la := text_len a
    have lb := text_len b
    have c1 : 1 + a.text.length ≤ 16777216 := by omega
    have c2 : 1 + a.text.length + 3 ≤ 16777216 := by omega
    have c3 : 1 + a.text.length + 3 + b.text.length ≤ 16777216 := by omega
    have c4 : 1 + a.text.length + 3 + b.text.length + 1 ≤ 16777216 := by omega
    cases r
    · simp only [fn_l_text, m_l_text, T.plain, T.text, T.sign, at0, at1, at2, ia, ib, q2, len_app, l1, l2, l4, c1, c2, c3, c4, noX, fnSem, en0, pre0, ioOf, mSeq, mIfS, mRet, mRetN, mAsg, mAsgO, mExpr, mNext, mDead, mTest, mAnd, mOr, mNot, mIf, mAndV, mOrV, mNotV, notD, mChain, mOp1, mOp2, mC, mVar, mCall, mCons, mNil, mTup, mLst, mStar, mCallV, mCallD, mPar, mAsgG, gT, gTs, gN, setV, notIo, nxt, Rs.bind, lift, asB, one1, two1, ixD, addD, subD, lenT, lenL, lenSc, tupD, intD, eq0, dI, dB, dS, List.length_cons, List.length_nil, List.map_cons, List.map_nil, List.append_nil, List.nil_append, List.cons_append, List.getElem?_cons_zero, List.getElem?_cons_succ, List.set_cons_zero, List.set_cons_succ, List.replicate, Option.bind_some, Option.map_some, Option.bind, Nat.zero_add, Nat.add_zero, Nat.reduceAdd, Nat.reduceSub, Nat.reduceEqDiff, if_true, if_false, reduceIte, Bool.false_eq_true, Bool.not_true, Bool.not_false, isSs, isSt, isTt, isTs, isIi, isBi, Nat.reduceLT, decide_true, decide_false, mSetF, clsAt, fldS, muOf, Sl.get, Sl.put, putD, mSetFs, fldsT, fldsS, allS, mMake, mMakeL, mCm, fnN, mJs, itSeq, mMeth, beq_self_eq_true, and_self, List.isEmpty_nil, List.isEmpty_cons, Option.map, big, Nat.reduceLeDiff, Nat.zero_le, Nat.le_refl]
    · simp only [fn_l_text, m_l_text, T.plain, T.text, T.sign, at0, at1, at2, ia, ib, q1, len_app, l1, l2, l3, c1, c2, c3, c4, noX, fnSem, en0, pre0, ioOf, mSeq, mIfS, mRet, mRetN, mAsg, mAsgO, mExpr, mNext, mDead, mTest, mAnd, mOr, mNot, mIf, mAndV, mOrV, mNotV, notD, mChain, mOp1, mOp2, mC, mVar, mCall, mCons, mNil, mTup, mLst, mStar, mCallV, mCallD, mPar, mAsgG, gT, gTs, gN, setV, notIo, nxt, Rs.bind, lift, asB, one1, two1, ixD, addD, subD, lenT, lenL, lenSc, tupD, intD, eq0, dI, dB, dS, List.length_cons, List.length_nil, List.map_cons, List.map_nil, List.append_nil, List.nil_append, List.cons_append, List.getElem?_cons_zero, List.getElem?_cons_succ, List.set_cons_zero, List.set_cons_succ, List.replicate, Option.bind_some, Option.map_some, Option.bind, Nat.zero_add, Nat.add_zero, Nat.reduceAdd, Nat.reduceSub, Nat.reduceEqDiff, if_true, if_false, reduceIte, Bool.false_eq_true, Bool.not_true, Bool.not_false, isSs, isSt, isTt, isTs, isIi, isBi, Nat.reduceLT, decide_true, decide_false, mSetF, clsAt, fldS, muOf, Sl.get, Sl.put, putD, mSetFs, fldsT, fldsS, allS, mMake, mMakeL, mCm, fnN, mJs, itSeq, mMeth, beq_self_eq_true, and_self, List.isEmpty_nil, List.isEmpty_cons, Option.map, big, Nat.reduceLeDiff, Nat.zero_le, Nat.le_refl]
/-! ### the program's buildings -/
def T.lv : T → List D
  | .leaf true => [.str "tie"]
  | .leaf false => [.str "gap"]
  | .node _ a b => a.lv ++ b.lv
def T.obj : T → D
  | .leaf true => .obj 0 [.tup [.str "tie"], .int 2, .tup [], .int 1, .str "tie", .str "tie"]
  | .leaf false => .obj 0 [.tup [.str "gap"], .int 2, .tup [], .int 1, .str "gap", .str "gap"]
  | .node r a b => .obj 0 [.tup (a.lv ++ b.lv), .int (T.node r a b).many, .tup [a.obj, b.obj], .int (a.leaves + b.leaves : Nat), .str (T.node r a b).text, .str (T.node r a b).word]
theorem mk_leaf (b : Bool) : mkF 0 fn_Building_uinitu [.str (T.leaf b).word, .tup []] = some ((T.leaf b).obj, false) := by
  cases b <;> simp only [mkF, fn_Building_uinitu, m_Building_uinitu, T.word, T.obj, noX, fnSem, en0, pre0, ioOf, mSeq, mIfS, mRet, mRetN, mAsg, mAsgO, mExpr, mNext, mDead, mTest, mAnd, mOr, mNot, mIf, mAndV, mOrV, mNotV, notD, mChain, mOp1, mOp2, mC, mVar, mCall, mCons, mNil, mTup, mLst, mStar, mCallV, mCallD, mPar, mAsgG, gT, gTs, gN, setV, notIo, nxt, Rs.bind, lift, asB, one1, two1, ixD, addD, subD, lenT, lenL, lenSc, tupD, intD, eq0, dI, dB, dS, List.length_cons, List.length_nil, List.map_cons, List.map_nil, List.append_nil, List.nil_append, List.cons_append, List.getElem?_cons_zero, List.getElem?_cons_succ, List.set_cons_zero, List.set_cons_succ, List.replicate, Option.bind_some, Option.map_some, Option.bind, Nat.zero_add, Nat.add_zero, Nat.reduceAdd, Nat.reduceSub, Nat.reduceEqDiff, if_true, if_false, reduceIte, Bool.false_eq_true, Bool.not_true, Bool.not_false, isSs, isSt, isTt, isTs, isIi, isBi, Nat.reduceLT, decide_true, decide_false, mSetF, clsAt, fldS, muOf, Sl.get, Sl.put, putD, mSetFs, fldsT, fldsS, allS, mMake, mMakeL, mCm, fnN, mJs, itSeq, mMeth, beq_self_eq_true, and_self, List.isEmpty_nil, List.isEmpty_cons, Option.map, big, Nat.reduceLeDiff, Nat.zero_le, Nat.le_refl]
theorem tie_ok : fn_Building_tie none [.cls 0] = .ret ((T.leaf true).obj, false) none := by
  have h := mk_leaf true
  simp only [T.word] at h
  simp only [fn_Building_tie, m_Building_tie, h, noX, fnSem, en0, pre0, ioOf, mSeq, mIfS, mRet, mRetN, mAsg, mAsgO, mExpr, mNext, mDead, mTest, mAnd, mOr, mNot, mIf, mAndV, mOrV, mNotV, notD, mChain, mOp1, mOp2, mC, mVar, mCall, mCons, mNil, mTup, mLst, mStar, mCallV, mCallD, mPar, mAsgG, gT, gTs, gN, setV, notIo, nxt, Rs.bind, lift, asB, one1, two1, ixD, addD, subD, lenT, lenL, lenSc, tupD, intD, eq0, dI, dB, dS, List.length_cons, List.length_nil, List.map_cons, List.map_nil, List.append_nil, List.nil_append, List.cons_append, List.getElem?_cons_zero, List.getElem?_cons_succ, List.set_cons_zero, List.set_cons_succ, List.replicate, Option.bind_some, Option.map_some, Option.bind, Nat.zero_add, Nat.add_zero, Nat.reduceAdd, Nat.reduceSub, Nat.reduceEqDiff, if_true, if_false, reduceIte, Bool.false_eq_true, Bool.not_true, Bool.not_false, isSs, isSt, isTt, isTs, isIi, isBi, Nat.reduceLT, decide_true, decide_false, mSetF, clsAt, fldS, muOf, Sl.get, Sl.put, putD, mSetFs, fldsT, fldsS, allS, mMake, mMakeL, mCm, fnN, mJs, itSeq, mMeth, beq_self_eq_true, and_self, List.isEmpty_nil, List.isEmpty_cons, Option.map, big, Nat.reduceLeDiff, Nat.zero_le, Nat.le_refl]
theorem gap_ok : fn_Building_gap none [.cls 0] = .ret ((T.leaf false).obj, false) none := by
  have h := mk_leaf false
  simp only [T.word] at h
  simp only [fn_Building_gap, m_Building_gap, h, noX, fnSem, en0, pre0, ioOf, mSeq, mIfS, mRet, mRetN, mAsg, mAsgO, mExpr, mNext, mDead, mTest, mAnd, mOr, mNot, mIf, mAndV, mOrV, mNotV, notD, mChain, mOp1, mOp2, mC, mVar, mCall, mCons, mNil, mTup, mLst, mStar, mCallV, mCallD, mPar, mAsgG, gT, gTs, gN, setV, notIo, nxt, Rs.bind, lift, asB, one1, two1, ixD, addD, subD, lenT, lenL, lenSc, tupD, intD, eq0, dI, dB, dS, List.length_cons, List.length_nil, List.map_cons, List.map_nil, List.append_nil, List.nil_append, List.cons_append, List.getElem?_cons_zero, List.getElem?_cons_succ, List.set_cons_zero, List.set_cons_succ, List.replicate, Option.bind_some, Option.map_some, Option.bind, Nat.zero_add, Nat.add_zero, Nat.reduceAdd, Nat.reduceSub, Nat.reduceEqDiff, if_true, if_false, reduceIte, Bool.false_eq_true, Bool.not_true, Bool.not_false, isSs, isSt, isTt, isTs, isIi, isBi, Nat.reduceLT, decide_true, decide_false, mSetF, clsAt, fldS, muOf, Sl.get, Sl.put, putD, mSetFs, fldsT, fldsS, allS, mMake, mMakeL, mCm, fnN, mJs, itSeq, mMeth, beq_self_eq_true, and_self, List.isEmpty_nil, List.isEmpty_cons, Option.map, big, Nat.reduceLeDiff, Nat.zero_le, Nat.le_refl]
/-- the fields of a building -/
theorem obj_eq (t : T) : t.obj = .obj 0 [.tup t.lv, .int t.many, (match t with | .leaf _ => .tup [] | .node _ a b => .tup [a.obj, b.obj]), .int (t.leaves : Nat), .str t.text, .str t.word] := by
  match t with
  | .leaf true => rfl
  | .leaf false => rfl
  | .node r a b => rfl
theorem lv_len : ∀ t : T, t.lv.length = t.leaves
  | .leaf true => rfl
  | .leaf false => rfl
  | .node _ a b => by simp only [T.lv, T.leaves, List.length_append, lv_len a, lv_len b]
theorem fmt_str {x : Str} (h : x.length ≤ 16777216) : fmtD (.str x) = some (dS x) := by
  show (if x.length ≤ sizeLine then some (dS x) else none) = _
  rw [if_pos (show x.length ≤ sizeLine from h)]
theorem fld_text (t : T) : fldD ix_own_text t.obj = some (.str t.text, false) := by rw [obj_eq]; rfl
theorem fld_many (t : T) : fldD ix_own_many t.obj = some (.int t.many, false) := by rw [obj_eq]; rfl
theorem fld_size (t : T) : fldD ix_own_size t.obj = some (.int (t.leaves : Nat), false) := by rw [obj_eq]; rfl
theorem fld_lv (t : T) : fldD ix_own_leaves t.obj = some (.tup t.lv, false) := by rw [obj_eq]; rfl
theorem fld_word (t : T) : fldD ix_word t.obj = some (.str t.word, false) := by rw [obj_eq]; rfl
theorem app_str (a b : Str) : Str.empty ++ a = a := by
  show Str.append _ _ = _
  unfold Str.append Str.empty
  simp
theorem kd1 : kdF tab_SIGNS (.str "row") = some (.str " + ", false) := by
  show Option.map (fun d : D => ((d, false) : Vl)) (tab_SIGNS "row") = _
  unfold tab_SIGNS
  rw [if_pos rfl]
  rfl
theorem kd2 : kdF tab_SIGNS (.str "side") = some (.str " | ", false) := by
  show Option.map (fun d : D => ((d, false) : Vl)) (tab_SIGNS "side") = _
  unfold tab_SIGNS
  rw [if_neg (by decide +kernel), if_pos rfl]
  rfl
theorem kd3 : kdF tab_LOST (.str "row") = some (.int 1, false) := by
  show Option.map (fun d : D => ((d, false) : Vl)) (tab_LOST "row") = _
  unfold tab_LOST
  rw [if_pos rfl]
  rfl
theorem kd4 : kdF tab_LOST (.str "side") = some (.int 2, false) := by
  show Option.map (fun d : D => ((d, false) : Vl)) (tab_LOST "side") = _
  unfold tab_LOST
  rw [if_neg (by decide +kernel), if_pos rfl]
  rfl
theorem l0 : Str.empty.length = 0 := rfl
theorem emp (a : Str) : Str.empty ++ a = a := app_str a a
theorem int2_int (g : Int → Int → Vl) (i j : Int) : int2 g (.int i) (.int j) = some (g i j) := rfl
theorem mk_node (r : Bool) (a b : T) (h : a.leaves + b.leaves ≤ 60) : mkF 0 fn_Building_uinitu [.str (T.node r a b).word, .tup [a.obj, b.obj]] = some ((T.node r a b).obj, false) := by
  have la := text_len a
  have lb := text_len b
  have va := lv_len a
  have vb := lv_len b
  have fa := fmt_str (x := a.text) (by omega)
  have fb := fmt_str (x := b.text) (by omega)
  have f1 := fmt_str (x := " + ") (by rw [l3]; decide)
  have f2 := fmt_str (x := " | ") (by rw [l4]; decide)
  have c1 : 1 + a.text.length ≤ 16777216 := by omega
  have c2 : 1 + a.text.length + 3 ≤ 16777216 := by omega
  have c3 : 1 + a.text.length + 3 + b.text.length ≤ 16777216 := by omega
  have c4 : 1 + a.text.length + 3 + b.text.length + 1 ≤ 16777216 := by omega
  have c5 : a.leaves + b.leaves ≤ 16777216 := by omega
  cases r
  · simp only [mkF, fn_Building_uinitu, m_Building_uinitu, T.word, T.obj, T.text, T.sign, T.many, fld_text, fld_many, fld_size, fld_lv, fa, fb, f1, f2, kd2, kd4, emp, len_app, l1, l2, l4, c1, c2, c3, c4, c5, va, vb, List.length_append, int2_int, Int.natCast_add, noX, fnSem, en0, pre0, ioOf, mSeq, mIfS, mRet, mRetN, mAsg, mAsgO, mExpr, mNext, mDead, mTest, mAnd, mOr, mNot, mIf, mAndV, mOrV, mNotV, notD, mChain, mOp1, mOp2, mC, mVar, mCall, mCons, mNil, mTup, mLst, mStar, mCallV, mCallD, mPar, mAsgG, gT, gTs, gN, setV, notIo, nxt, Rs.bind, lift, asB, one1, two1, ixD, addD, subD, lenT, lenL, lenSc, tupD, intD, eq0, dI, dB, dS, List.length_cons, List.length_nil, List.map_cons, List.map_nil, List.append_nil, List.nil_append, List.cons_append, List.getElem?_cons_zero, List.getElem?_cons_succ, List.set_cons_zero, List.set_cons_succ, List.replicate, Option.bind_some, Option.map_some, Option.bind, Nat.zero_add, Nat.add_zero, Nat.reduceAdd, Nat.reduceSub, Nat.reduceEqDiff, if_true, if_false, reduceIte, Bool.false_eq_true, Bool.not_true, Bool.not_false, isSs, isSt, isTt, isTs, isIi, isBi, Nat.reduceLT, decide_true, decide_false, mSetF, clsAt, fldS, muOf, Sl.get, Sl.put, putD, mSetFs, fldsT, fldsS, allS, mMake, mMakeL, mCm, fnN, mJs, itSeq, mMeth, beq_self_eq_true, and_self, List.isEmpty_nil, List.isEmpty_cons, Option.map, big, Nat.reduceLeDiff, Nat.zero_le, Nat.le_refl]
  · simp only [mkF, fn_Building_uinitu, m_Building_uinitu, T.word, T.obj, T.text, T.sign, T.many, fld_text, fld_many, fld_size, fld_lv, fa, fb, f1, f2, kd1, kd3, emp, len_app, l1, l2, l3, c1, c2, c3, c4, c5, va, vb, List.length_append, int2_int, Int.natCast_add, noX, fnSem, en0, pre0, ioOf, mSeq, mIfS, mRet, mRetN, mAsg, mAsgO, mExpr, mNext, mDead, mTest, mAnd, mOr, mNot, mIf, mAndV, mOrV, mNotV, notD, mChain, mOp1, mOp2, mC, mVar, mCall, mCons, mNil, mTup, mLst, mStar, mCallV, mCallD, mPar, mAsgG, gT, gTs, gN, setV, notIo, nxt, Rs.bind, lift, asB, one1, two1, ixD, addD, subD, lenT, lenL, lenSc, tupD, intD, eq0, dI, dB, dS, List.length_cons, List.length_nil, List.map_cons, List.map_nil, List.append_nil, List.nil_append, List.cons_append, List.getElem?_cons_zero, List.getElem?_cons_succ, List.set_cons_zero, List.set_cons_succ, List.replicate, Option.bind_some, Option.map_some, Option.bind, Nat.zero_add, Nat.add_zero, Nat.reduceAdd, Nat.reduceSub, Nat.reduceEqDiff, if_true, if_false, reduceIte, Bool.false_eq_true, Bool.not_true, Bool.not_false, isSs, isSt, isTt, isTs, isIi, isBi, Nat.reduceLT, decide_true, decide_false, mSetF, clsAt, fldS, muOf, Sl.get, Sl.put, putD, mSetFs, fldsT, fldsS, allS, mMake, mMakeL, mCm, fnN, mJs, itSeq, mMeth, beq_self_eq_true, and_self, List.isEmpty_nil, List.isEmpty_cons, Option.map, big, Nat.reduceLeDiff, Nat.zero_le, Nat.le_refl]
theorem req_ok (k : Nat) (h : k ≤ 60) : fn_require_leaves none [.int k] = .ret (.non, false) none := by
  have c : decide ((60 : Int) < (k : Int)) = false := by simp; omega
  simp only [fn_require_leaves, m_require_leaves, gtI, int2_int, c, noX, fnSem, en0, pre0, ioOf, mSeq, mIfS, mRet, mRetN, mAsg, mAsgO, mExpr, mNext, mDead, mTest, mAnd, mOr, mNot, mIf, mAndV, mOrV, mNotV, notD, mChain, mOp1, mOp2, mC, mVar, mCall, mCons, mNil, mTup, mLst, mStar, mCallV, mCallD, mPar, mAsgG, gT, gTs, gN, setV, notIo, nxt, Rs.bind, lift, asB, one1, two1, ixD, addD, subD, lenT, lenL, lenSc, tupD, intD, eq0, dI, dB, dS, List.length_cons, List.length_nil, List.map_cons, List.map_nil, List.append_nil, List.nil_append, List.cons_append, List.getElem?_cons_zero, List.getElem?_cons_succ, List.set_cons_zero, List.set_cons_succ, List.replicate, Option.bind_some, Option.map_some, Option.bind, Nat.zero_add, Nat.add_zero, Nat.reduceAdd, Nat.reduceSub, Nat.reduceEqDiff, if_true, if_false, reduceIte, Bool.false_eq_true, Bool.not_true, Bool.not_false, isSs, isSt, isTt, isTs, isIi, isBi, Nat.reduceLT, decide_true, decide_false, mSetF, clsAt, fldS, muOf, Sl.get, Sl.put, putD, mSetFs, fldsT, fldsS, allS, mMake, mMakeL, mCm, fnN, mJs, itSeq, mMeth, beq_self_eq_true, and_self, List.isEmpty_nil, List.isEmpty_cons, Option.map, big, Nat.reduceLeDiff, Nat.zero_le, Nat.le_refl]
theorem is_obj (t : T) : isD 1 ans_Building t.obj = some (dB true) := by rw [obj_eq]; rfl
theorem joined_ok (r : Bool) (a b : T) (h : a.leaves + b.leaves ≤ 60) : fn_joined_building none [.str (T.node r a b).word, a.obj, b.obj] = .ret ((T.node r a b).obj, false) none := by
  have m := mk_node r a b h
  have q := req_ok (a.leaves + b.leaves) h
  simp only [Int.natCast_add] at q
  simp only [fn_joined_building, m_joined_building, is_obj, fld_size, m, q, int2_int, noX, fnSem, en0, pre0, ioOf, mSeq, mIfS, mRet, mRetN, mAsg, mAsgO, mExpr, mNext, mDead, mTest, mAnd, mOr, mNot, mIf, mAndV, mOrV, mNotV, notD, mChain, mOp1, mOp2, mC, mVar, mCall, mCons, mNil, mTup, mLst, mStar, mCallV, mCallD, mPar, mAsgG, gT, gTs, gN, setV, notIo, nxt, Rs.bind, lift, asB, one1, two1, ixD, addD, subD, lenT, lenL, lenSc, tupD, intD, eq0, dI, dB, dS, List.length_cons, List.length_nil, List.map_cons, List.map_nil, List.append_nil, List.nil_append, List.cons_append, List.getElem?_cons_zero, List.getElem?_cons_succ, List.set_cons_zero, List.set_cons_succ, List.replicate, Option.bind_some, Option.map_some, Option.bind, Nat.zero_add, Nat.add_zero, Nat.reduceAdd, Nat.reduceSub, Nat.reduceEqDiff, if_true, if_false, reduceIte, Bool.false_eq_true, Bool.not_true, Bool.not_false, isSs, isSt, isTt, isTs, isIi, isBi, Nat.reduceLT, decide_true, decide_false, mSetF, clsAt, fldS, muOf, Sl.get, Sl.put, putD, mSetFs, fldsT, fldsS, allS, mMake, mMakeL, mCm, fnN, mJs, itSeq, mMeth, beq_self_eq_true, and_self, List.isEmpty_nil, List.isEmpty_cons, Option.map, big, Nat.reduceLeDiff, Nat.zero_le, Nat.le_refl]
theorem add_ok (a b : T) (h : a.leaves + b.leaves ≤ 60) : fn_Building_uaddu none [a.obj, b.obj] = .ret ((T.node true a b).obj, false) none := by
  have q := joined_ok true a b h
  simp only [T.word] at q
  simp only [fn_Building_uaddu, m_Building_uaddu, q, noX, fnSem, en0, pre0, ioOf, mSeq, mIfS, mRet, mRetN, mAsg, mAsgO, mExpr, mNext, mDead, mTest, mAnd, mOr, mNot, mIf, mAndV, mOrV, mNotV, notD, mChain, mOp1, mOp2, mC, mVar, mCall, mCons, mNil, mTup, mLst, mStar, mCallV, mCallD, mPar, mAsgG, gT, gTs, gN, setV, notIo, nxt, Rs.bind, lift, asB, one1, two1, ixD, addD, subD, lenT, lenL, lenSc, tupD, intD, eq0, dI, dB, dS, List.length_cons, List.length_nil, List.map_cons, List.map_nil, List.append_nil, List.nil_append, List.cons_append, List.getElem?_cons_zero, List.getElem?_cons_succ, List.set_cons_zero, List.set_cons_succ, List.replicate, Option.bind_some, Option.map_some, Option.bind, Nat.zero_add, Nat.add_zero, Nat.reduceAdd, Nat.reduceSub, Nat.reduceEqDiff, if_true, if_false, reduceIte, Bool.false_eq_true, Bool.not_true, Bool.not_false, isSs, isSt, isTt, isTs, isIi, isBi, Nat.reduceLT, decide_true, decide_false, mSetF, clsAt, fldS, muOf, Sl.get, Sl.put, putD, mSetFs, fldsT, fldsS, allS, mMake, mMakeL, mCm, fnN, mJs, itSeq, mMeth, beq_self_eq_true, and_self, List.isEmpty_nil, List.isEmpty_cons, Option.map, big, Nat.reduceLeDiff, Nat.zero_le, Nat.le_refl]
theorem or_ok (a b : T) (h : a.leaves + b.leaves ≤ 60) : fn_Building_uoru none [a.obj, b.obj] = .ret ((T.node false a b).obj, false) none := by
  have q := joined_ok false a b h
  simp only [T.word] at q
  simp only [fn_Building_uoru, m_Building_uoru, q, noX, fnSem, en0, pre0, ioOf, mSeq, mIfS, mRet, mRetN, mAsg, mAsgO, mExpr, mNext, mDead, mTest, mAnd, mOr, mNot, mIf, mAndV, mOrV, mNotV, notD, mChain, mOp1, mOp2, mC, mVar, mCall, mCons, mNil, mTup, mLst, mStar, mCallV, mCallD, mPar, mAsgG, gT, gTs, gN, setV, notIo, nxt, Rs.bind, lift, asB, one1, two1, ixD, addD, subD, lenT, lenL, lenSc, tupD, intD, eq0, dI, dB, dS, List.length_cons, List.length_nil, List.map_cons, List.map_nil, List.append_nil, List.nil_append, List.cons_append, List.getElem?_cons_zero, List.getElem?_cons_succ, List.set_cons_zero, List.set_cons_succ, List.replicate, Option.bind_some, Option.map_some, Option.bind, Nat.zero_add, Nat.add_zero, Nat.reduceAdd, Nat.reduceSub, Nat.reduceEqDiff, if_true, if_false, reduceIte, Bool.false_eq_true, Bool.not_true, Bool.not_false, isSs, isSt, isTt, isTs, isIi, isBi, Nat.reduceLT, decide_true, decide_false, mSetF, clsAt, fldS, muOf, Sl.get, Sl.put, putD, mSetFs, fldsT, fldsS, allS, mMake, mMakeL, mCm, fnN, mJs, itSeq, mMeth, beq_self_eq_true, and_self, List.isEmpty_nil, List.isEmpty_cons, Option.map, big, Nat.reduceLeDiff, Nat.zero_le, Nat.le_refl]
theorem opAdd (a b : T) (h : a.leaves + b.leaves ≤ 60) : orD addD (objOp 0 fn_Building_uaddu) a.obj b.obj = some ((T.node true a b).obj, false) := by
  have q := add_ok a b h
  have e : orD addD (objOp 0 fn_Building_uaddu) a.obj b.obj = objOp 0 fn_Building_uaddu a.obj b.obj := by rw [obj_eq a]; rfl
  rw [e]
  have i1 : isObj 0 a.obj = true := by rw [obj_eq]; rfl
  have i2 : isObj 0 b.obj = true := by rw [obj_eq]; rfl
  unfold objOp fnN
  rw [if_pos ⟨i1, i2⟩, q]
theorem opOr (a b : T) (h : a.leaves + b.leaves ≤ 60) : objOp 0 fn_Building_uoru a.obj b.obj = some ((T.node false a b).obj, false) := by
  have q := or_ok a b h
  have i1 : isObj 0 a.obj = true := by rw [obj_eq]; rfl
  have i2 : isObj 0 b.obj = true := by rw [obj_eq]; rfl
  unfold objOp fnN
  rw [if_pos ⟨i1, i2⟩, q]
theorem built_ok : ∀ (t : T) (n : Nat), t.leaves ≤ n → t.leaves ≤ 60 → fn_l_built n none [t.plain] = .ret (t.obj, false) none
  | .leaf b, 0, h, _ => by simp [T.leaves] at h
  | .node r a b, 0, h, _ => by have := T.pos (.node r a b); omega
  | .leaf true, n + 1, _, _ => by simp only [fn_l_built, m_l_built, T.plain, q3, tie_ok, noX, fnSem, en0, pre0, ioOf, mSeq, mIfS, mRet, mRetN, mAsg, mAsgO, mExpr, mNext, mDead, mTest, mAnd, mOr, mNot, mIf, mAndV, mOrV, mNotV, notD, mChain, mOp1, mOp2, mC, mVar, mCall, mCons, mNil, mTup, mLst, mStar, mCallV, mCallD, mPar, mAsgG, gT, gTs, gN, setV, notIo, nxt, Rs.bind, lift, asB, one1, two1, ixD, addD, subD, lenT, lenL, lenSc, tupD, intD, eq0, dI, dB, dS, List.length_cons, List.length_nil, List.map_cons, List.map_nil, List.append_nil, List.nil_append, List.cons_append, List.getElem?_cons_zero, List.getElem?_cons_succ, List.set_cons_zero, List.set_cons_succ, List.replicate, Option.bind_some, Option.map_some, Option.bind, Nat.zero_add, Nat.add_zero, Nat.reduceAdd, Nat.reduceSub, Nat.reduceEqDiff, if_true, if_false, reduceIte, Bool.false_eq_true, Bool.not_true, Bool.not_false, isSs, isSt, isTt, isTs, isIi, isBi, Nat.reduceLT, decide_true, decide_false, mSetF, clsAt, fldS, muOf, Sl.get, Sl.put, putD, mSetFs, fldsT, fldsS, allS, mMake, mMakeL, mCm, fnN, mJs, itSeq, mMeth, beq_self_eq_true, and_self, List.isEmpty_nil, List.isEmpty_cons, Option.map, big, Nat.reduceLeDiff, Nat.zero_le, Nat.le_refl]
  | .leaf false, n + 1, _, _ => by simp only [fn_l_built, m_l_built, T.plain, q4, gap_ok, noX, fnSem, en0, pre0, ioOf, mSeq, mIfS, mRet, mRetN, mAsg, mAsgO, mExpr, mNext, mDead, mTest, mAnd, mOr, mNot, mIf, mAndV, mOrV, mNotV, notD, mChain, mOp1, mOp2, mC, mVar, mCall, mCons, mNil, mTup, mLst, mStar, mCallV, mCallD, mPar, mAsgG, gT, gTs, gN, setV, notIo, nxt, Rs.bind, lift, asB, one1, two1, ixD, addD, subD, lenT, lenL, lenSc, tupD, intD, eq0, dI, dB, dS, List.length_cons, List.length_nil, List.map_cons, List.map_nil, List.append_nil, List.nil_append, List.cons_append, List.getElem?_cons_zero, List.getElem?_cons_succ, List.set_cons_zero, List.set_cons_succ, List.replicate, Option.bind_some, Option.map_some, Option.bind, Nat.zero_add, Nat.add_zero, Nat.reduceAdd, Nat.reduceSub, Nat.reduceEqDiff, if_true, if_false, reduceIte, Bool.false_eq_true, Bool.not_true, Bool.not_false, isSs, isSt, isTt, isTs, isIi, isBi, Nat.reduceLT, decide_true, decide_false, mSetF, clsAt, fldS, muOf, Sl.get, Sl.put, putD, mSetFs, fldsT, fldsS, allS, mMake, mMakeL, mCm, fnN, mJs, itSeq, mMeth, beq_self_eq_true, and_self, List.isEmpty_nil, List.isEmpty_cons, Option.map, big, Nat.reduceLeDiff, Nat.zero_le, Nat.le_refl]
  | .node r a b, n + 1, h, h6 => by
    have pa := a.pos
    have pb := b.pos
    simp only [T.leaves] at h h6
    have ia := built_ok a n (by omega) (by omega)
    have ib := built_ok b n (by omega) (by omega)
    have o1 := opAdd a b h6
    have o2 := opOr a b h6
    cases r
    · simp only [fn_l_built, m_l_built, T.plain, at0, at1, at2, ia, ib, q2, o2, noX, fnSem, en0, pre0, ioOf, mSeq, mIfS, mRet, mRetN, mAsg, mAsgO, mExpr, mNext, mDead, mTest, mAnd, mOr, mNot, mIf, mAndV, mOrV, mNotV, notD, mChain, mOp1, mOp2, mC, mVar, mCall, mCons, mNil, mTup, mLst, mStar, mCallV, mCallD, mPar, mAsgG, gT, gTs, gN, setV, notIo, nxt, Rs.bind, lift, asB, one1, two1, ixD, addD, subD, lenT, lenL, lenSc, tupD, intD, eq0, dI, dB, dS, List.length_cons, List.length_nil, List.map_cons, List.map_nil, List.append_nil, List.nil_append, List.cons_append, List.getElem?_cons_zero, List.getElem?_cons_succ, List.set_cons_zero, List.set_cons_succ, List.replicate, Option.bind_some, Option.map_some, Option.bind, Nat.zero_add, Nat.add_zero, Nat.reduceAdd, Nat.reduceSub, Nat.reduceEqDiff, if_true, if_false, reduceIte, Bool.false_eq_true, Bool.not_true, Bool.not_false, isSs, isSt, isTt, isTs, isIi, isBi, Nat.reduceLT, decide_true, decide_false, mSetF, clsAt, fldS, muOf, Sl.get, Sl.put, putD, mSetFs, fldsT, fldsS, allS, mMake, mMakeL, mCm, fnN, mJs, itSeq, mMeth, beq_self_eq_true, and_self, List.isEmpty_nil, List.isEmpty_cons, Option.map, big, Nat.reduceLeDiff, Nat.zero_le, Nat.le_refl]
    · simp only [fn_l_built, m_l_built, T.plain, at0, at1, at2, ia, ib, q1, o1, noX, fnSem, en0, pre0, ioOf, mSeq, mIfS, mRet, mRetN, mAsg, mAsgO, mExpr, mNext, mDead, mTest, mAnd, mOr, mNot, mIf, mAndV, mOrV, mNotV, notD, mChain, mOp1, mOp2, mC, mVar, mCall, mCons, mNil, mTup, mLst, mStar, mCallV, mCallD, mPar, mAsgG, gT, gTs, gN, setV, notIo, nxt, Rs.bind, lift, asB, one1, two1, ixD, addD, subD, lenT, lenL, lenSc, tupD, intD, eq0, dI, dB, dS, List.length_cons, List.length_nil, List.map_cons, List.map_nil, List.append_nil, List.nil_append, List.cons_append, List.getElem?_cons_zero, List.getElem?_cons_succ, List.set_cons_zero, List.set_cons_succ, List.replicate, Option.bind_some, Option.map_some, Option.bind, Nat.zero_add, Nat.add_zero, Nat.reduceAdd, Nat.reduceSub, Nat.reduceEqDiff, if_true, if_false, reduceIte, Bool.false_eq_true, Bool.not_true, Bool.not_false, isSs, isSt, isTt, isTs, isIi, isBi, Nat.reduceLT, decide_true, decide_false, mSetF, clsAt, fldS, muOf, Sl.get, Sl.put, putD, mSetFs, fldsT, fldsS, allS, mMake, mMakeL, mCm, fnN, mJs, itSeq, mMeth, beq_self_eq_true, and_self, List.isEmpty_nil, List.isEmpty_cons, Option.map, big, Nat.reduceLeDiff, Nat.zero_le, Nat.le_refl]
/-! ### comprehensions -/
theorem lc_run {j : Nat} {me : ME} {f : D → Vl} : ∀ (ds acc : List D) (ρ : En), acc.length + ds.length ≤ sizeLine → notIo (ρ[j]?) = true → wipeE ρ [j] = ρ → (∀ d ∈ ds, me (ρ.set j (.val d)) = .ok (f d) (ρ.set j (.val d))) →
    mLcLoop (gN j) [j] mYes me ds acc ρ = .ok (acc ++ ds.map fun d => (f d).1) ρ
  | [], acc, ρ, _, _, _, _ => by simp [mLcLoop]
  | d :: ds, acc, ρ, hl, hi, hw, h => by
    have h1 := h d (by simp)
    have hl' : acc.length + (ds.length + 1) ≤ sizeLine := hl
    have w2 : wipeE (ρ.set j (.val d)) [j] = ρ := by
      have e : wipeE (ρ.set j (.val d)) [j] = (ρ.set j (.val d)).set j .non := rfl
      rw [e, List.set_set]
      exact hw
    have g1 : gN j d ρ = some (ρ.set j (.val d)) := by
      unfold gN setV
      rw [if_pos hi]
    unfold mLcLoop
    simp only [g1, mYes, if_true, h1]
    rw [if_pos (by omega), w2, lc_run ds (acc ++ [(f d).1]) ρ (by simp; omega) hi hw fun x hx => h x (by simp [hx])]
    simp
/-! ### paths -/
def bI : Bool → Int
  | false => 0
  | true => 1
def bD (b : Bool) : D := .int (bI b)
def pD (p : List Bool) : D := .tup (p.map bD)
def T.paths : T → List (List Bool)
  | .leaf _ => [[]]
  | .node _ a b => [] :: (a.paths.map (false :: ·) ++ b.paths.map (true :: ·))
theorem paths_len : ∀ t : T, t.paths.length + 1 = 2 * t.leaves
  | .leaf _ => rfl
  | .node _ a b => by
    have h1 := paths_len a
    have h2 := paths_len b
    simp only [T.paths, T.leaves, List.length_cons, List.length_append, List.length_map]
    omega
theorem path_len : ∀ (t : T) (p : List Bool), p ∈ t.paths → p.length + 1 ≤ t.leaves
  | .leaf _, p, h => by
    simp only [T.paths, List.mem_singleton] at h
    subst h
    exact Nat.le_refl _
  | .node _ a b, p, h => by
    have pa := a.pos
    have pb := b.pos
    simp only [T.paths, List.mem_cons, List.mem_append, List.mem_map] at h
    simp only [T.leaves]
    rcases h with rfl | ⟨q, hq, rfl⟩ | ⟨q, hq, rfl⟩
    · simp; omega
    · have := path_len a q hq
      simp; omega
    · have := path_len b q hq
      simp; omega
def T.kid : T → Bool → T
  | .node _ a _, false => a
  | .node _ _ b, true => b
  | t, _ => t
theorem c_below_ok (f : Fn) (n : Nat) (x0 : D) (acc : List D) (i : Bool) (y : D) (ps : List (List Bool)) (hp : ∀ p ∈ ps, p.length ≤ 60) (hn : ps.length ≤ 200) (fr : Bool) (hf : f none [y] = .ret (.lst (ps.map pD), fr) none) :
    c_paths_below_0 (fun _ => f) n [.val x0, .val (.lst acc), .val (bD i), .val y, .non] = .ok (.lst (ps.map fun p => pD (i :: p)), true) [.val x0, .val (.lst acc), .val (bD i), .val y, .non] := by
  have run := lc_run (j := 4) (me := (mTup (mCons (mVar 2) (mStar (mVar 4) mNil)))) (f := fun d => match d with | .tup q => (.tup (bD i :: q), false) | _ => (.non, false)) (ps.map pD) [] [.val x0, .val (.lst acc), .val (bD i), .val y, .non] (by simp [big]; omega) rfl rfl (fun d hd => by
    obtain ⟨p, hp1, rfl⟩ := List.mem_map.mp hd
    have := hp p hp1
    have c : p.length + 1 ≤ 16777216 := by omega
    simp only [pD, List.length_map, c, noX, fnSem, en0, pre0, ioOf, mSeq, mIfS, mRet, mRetN, mAsg, mAsgO, mExpr, mNext, mDead, mTest, mAnd, mOr, mNot, mIf, mAndV, mOrV, mNotV, notD, mChain, mOp1, mOp2, mC, mVar, mCall, mCons, mNil, mTup, mLst, mStar, mCallV, mCallD, mPar, mAsgG, gT, gTs, gN, setV, notIo, nxt, Rs.bind, lift, asB, one1, two1, ixD, addD, subD, lenT, lenL, lenSc, tupD, intD, eq0, dI, dB, dS, List.length_cons, List.length_nil, List.map_cons, List.map_nil, List.append_nil, List.nil_append, List.cons_append, List.getElem?_cons_zero, List.getElem?_cons_succ, List.set_cons_zero, List.set_cons_succ, List.replicate, Option.bind_some, Option.map_some, Option.bind, Nat.zero_add, Nat.add_zero, Nat.reduceAdd, Nat.reduceSub, Nat.reduceEqDiff, if_true, if_false, reduceIte, Bool.false_eq_true, Bool.not_true, Bool.not_false, isSs, isSt, isTt, isTs, isIi, isBi, Nat.reduceLT, decide_true, decide_false, mSetF, clsAt, fldS, muOf, Sl.get, Sl.put, putD, mSetFs, fldsT, fldsS, allS, mMake, mMakeL, mCm, fnN, mJs, itSeq, mMeth, beq_self_eq_true, and_self, List.isEmpty_nil, List.isEmpty_cons, Option.map, big, Nat.reduceLeDiff, Nat.zero_le, Nat.le_refl])
  have e : (ps.map pD).map (fun d => (match d with | .tup q => ((.tup (bD i :: q), false) : Vl) | _ => (.non, false)).1) = ps.map fun p => pD (i :: p) := by
    rw [List.map_map]
    rfl
  rw [e, List.nil_append] at run
  unfold c_paths_below_0 mLc
  have hi : (mIt itL (mCallV f (mCons (mVar 3) mNil))) [.val x0, .val (.lst acc), .val (bD i), .val y, .non] = .ok (ps.map pD) [.val x0, .val (.lst acc), .val (bD i), .val y, .non] := by
    simp only [mIt, itL, hf, noX, fnSem, en0, pre0, ioOf, mSeq, mIfS, mRet, mRetN, mAsg, mAsgO, mExpr, mNext, mDead, mTest, mAnd, mOr, mNot, mIf, mAndV, mOrV, mNotV, notD, mChain, mOp1, mOp2, mC, mVar, mCall, mCons, mNil, mTup, mLst, mStar, mCallV, mCallD, mPar, mAsgG, gT, gTs, gN, setV, notIo, nxt, Rs.bind, lift, asB, one1, two1, ixD, addD, subD, lenT, lenL, lenSc, tupD, intD, eq0, dI, dB, dS, List.length_cons, List.length_nil, List.map_cons, List.map_nil, List.append_nil, List.nil_append, List.cons_append, List.getElem?_cons_zero, List.getElem?_cons_succ, List.set_cons_zero, List.set_cons_succ, List.replicate, Option.bind_some, Option.map_some, Option.bind, Nat.zero_add, Nat.add_zero, Nat.reduceAdd, Nat.reduceSub, Nat.reduceEqDiff, if_true, if_false, reduceIte, Bool.false_eq_true, Bool.not_true, Bool.not_false, isSs, isSt, isTt, isTs, isIi, isBi, Nat.reduceLT, decide_true, decide_false, mSetF, clsAt, fldS, muOf, Sl.get, Sl.put, putD, mSetFs, fldsT, fldsS, allS, mMake, mMakeL, mCm, fnN, mJs, itSeq, mMeth, beq_self_eq_true, and_self, List.isEmpty_nil, List.isEmpty_cons, Option.map, big, Nat.reduceLeDiff, Nat.zero_le, Nat.le_refl]
  rw [hi]
  show Rs.bind (mLcLoop _ _ _ _ _ _ (wipeE _ [4])) _ = _
  have hw : wipeE [Sl.val x0, .val (.lst acc), .val (bD i), .val y, .non] [4] = [.val x0, .val (.lst acc), .val (bD i), .val y, .non] := rfl
  rw [hw, run]
  rfl
theorem fld_parts (r : Bool) (a b : T) : fldD ix_own_parts (T.node r a b).obj = some (.tup [a.obj, b.obj], false) := rfl
theorem fld_parts0 (b : Bool) : fldD ix_own_parts (T.leaf b).obj = some (.tup [], false) := by cases b <;> rfl
theorem below_ok : ∀ (t : T) (n : Nat), t.leaves ≤ n → t.leaves ≤ 60 → fn_paths_below n none [t.obj] = .ret (.lst (t.paths.map pD), false) none
  | .leaf b, 0, h, _ => by simp [T.leaves] at h
  | .node r a b, 0, h, _ => by have := T.pos (.node r a b); omega
  | .leaf b, n + 1, _, _ => by
    have e := fld_parts0 b
    simp only [fn_paths_below, m_paths_below, p_paths_below_1, mFor, mItA, itE, enumL, mLoop, T.paths, pD, e, noX, fnSem, en0, pre0, ioOf, mSeq, mIfS, mRet, mRetN, mAsg, mAsgO, mExpr, mNext, mDead, mTest, mAnd, mOr, mNot, mIf, mAndV, mOrV, mNotV, notD, mChain, mOp1, mOp2, mC, mVar, mCall, mCons, mNil, mTup, mLst, mStar, mCallV, mCallD, mPar, mAsgG, gT, gTs, gN, setV, notIo, nxt, Rs.bind, lift, asB, one1, two1, ixD, addD, subD, lenT, lenL, lenSc, tupD, intD, eq0, dI, dB, dS, List.length_cons, List.length_nil, List.map_cons, List.map_nil, List.append_nil, List.nil_append, List.cons_append, List.getElem?_cons_zero, List.getElem?_cons_succ, List.set_cons_zero, List.set_cons_succ, List.replicate, Option.bind_some, Option.map_some, Option.bind, Nat.zero_add, Nat.add_zero, Nat.reduceAdd, Nat.reduceSub, Nat.reduceEqDiff, if_true, if_false, reduceIte, Bool.false_eq_true, Bool.not_true, Bool.not_false, isSs, isSt, isTt, isTs, isIi, isBi, Nat.reduceLT, decide_true, decide_false, mSetF, clsAt, fldS, muOf, Sl.get, Sl.put, putD, mSetFs, fldsT, fldsS, allS, mMake, mMakeL, mCm, fnN, mJs, itSeq, mMeth, beq_self_eq_true, and_self, List.isEmpty_nil, List.isEmpty_cons, Option.map, big, Nat.reduceLeDiff, Nat.zero_le, Nat.le_refl]
  | .node r a b, n + 1, h, h6 => by
    have pa := a.pos
    have pb := b.pos
    simp only [T.leaves] at h h6
    have ia := below_ok a n (by omega) (by omega)
    have ib := below_ok b n (by omega) (by omega)
    have la := paths_len a
    have lb := paths_len b
    have e := fld_parts r a b
    generalize (T.node r a b).obj = x0 at e ⊢
    have e1 := c_below_ok (fn_paths_below n) n x0 [pD []] false a.obj a.paths (fun p hp => by have := path_len a p hp; omega) (by omega) false ia
    have e2 := c_below_ok (fn_paths_below n) n x0 ([pD []] ++ a.paths.map fun p => pD (false :: p)) true b.obj b.paths (fun p hp => by have := path_len b p hp; omega) (by omega) false ib
    simp only [bD, bI, List.singleton_append] at e1 e2
    have c1 : a.paths.length + 1 ≤ 16777216 := by omega
    have c2 : 1 + a.paths.length ≤ 16777216 := by omega
    have c3 : a.paths.length + 1 + b.paths.length ≤ 16777216 := by omega
    have lp : p_paths_below_1 (fun _ => fn_paths_below n) n [.val x0, .val (.lst [pD []]), .non, .non, .non] = .ok .nx [.val x0, .val (.lst (pD [] :: ((a.paths.map fun p => pD (false :: p)) ++ b.paths.map fun p => pD (true :: p)))), .val (.int 1), .val b.obj, .non] := by
      unfold p_paths_below_1
      simp only [mFor, mItA, itE, enumL, mLoop, e, e1, e2, List.length_map, c1, c2, c3, Int.natCast_zero, Int.natCast_one, noX, fnSem, en0, pre0, ioOf, mSeq, mIfS, mRet, mRetN, mAsg, mAsgO, mExpr, mNext, mDead, mTest, mAnd, mOr, mNot, mIf, mAndV, mOrV, mNotV, notD, mChain, mOp1, mOp2, mC, mVar, mCall, mCons, mNil, mTup, mLst, mStar, mCallV, mCallD, mPar, mAsgG, gT, gTs, gN, setV, notIo, nxt, Rs.bind, lift, asB, one1, two1, ixD, addD, subD, lenT, lenL, lenSc, tupD, intD, eq0, dI, dB, dS, List.length_cons, List.length_nil, List.map_cons, List.map_nil, List.append_nil, List.nil_append, List.cons_append, List.getElem?_cons_zero, List.getElem?_cons_succ, List.set_cons_zero, List.set_cons_succ, List.replicate, Option.bind_some, Option.map_some, Option.bind, Nat.zero_add, Nat.add_zero, Nat.reduceAdd, Nat.reduceSub, Nat.reduceEqDiff, if_true, if_false, reduceIte, Bool.false_eq_true, Bool.not_true, Bool.not_false, isSs, isSt, isTt, isTs, isIi, isBi, Nat.reduceLT, decide_true, decide_false, mSetF, clsAt, fldS, muOf, Sl.get, Sl.put, putD, mSetFs, fldsT, fldsS, allS, mMake, mMakeL, mCm, fnN, mJs, itSeq, mMeth, beq_self_eq_true, and_self, List.isEmpty_nil, List.isEmpty_cons, Option.map, big, Nat.reduceLeDiff, Nat.zero_le, Nat.le_refl]
    have e0 : pD [] = .tup [] := rfl
    simp only [e0] at lp
    simp only [fn_paths_below, m_paths_below, lp, noX, fnSem, en0, pre0, ioOf, mSeq, mIfS, mRet, mRetN, mAsg, mAsgO, mExpr, mNext, mDead, mTest, mAnd, mOr, mNot, mIf, mAndV, mOrV, mNotV, notD, mChain, mOp1, mOp2, mC, mVar, mCall, mCons, mNil, mTup, mLst, mStar, mCallV, mCallD, mPar, mAsgG, gT, gTs, gN, setV, notIo, nxt, Rs.bind, lift, asB, one1, two1, ixD, addD, subD, lenT, lenL, lenSc, tupD, intD, eq0, dI, dB, dS, List.length_cons, List.length_nil, List.map_cons, List.map_nil, List.append_nil, List.nil_append, List.cons_append, List.getElem?_cons_zero, List.getElem?_cons_succ, List.set_cons_zero, List.set_cons_succ, List.replicate, Option.bind_some, Option.map_some, Option.bind, Nat.zero_add, Nat.add_zero, Nat.reduceAdd, Nat.reduceSub, Nat.reduceEqDiff, if_true, if_false, reduceIte, Bool.false_eq_true, Bool.not_true, Bool.not_false, isSs, isSt, isTt, isTs, isIi, isBi, Nat.reduceLT, decide_true, decide_false, mSetF, clsAt, fldS, muOf, Sl.get, Sl.put, putD, mSetFs, fldsT, fldsS, allS, mMake, mMakeL, mCm, fnN, mJs, itSeq, mMeth, beq_self_eq_true, and_self, List.isEmpty_nil, List.isEmpty_cons, Option.map, big, Nat.reduceLeDiff, Nat.zero_le, Nat.le_refl]
    simp only [T.paths, List.map_cons, List.map_append, List.map_map, e0]
    rfl
theorem piled_le (B : Nat) : ∀ ts : List Str, (∀ t ∈ ts, t.length ≤ B) → piled ts ≤ (B + 2) * ts.length
  | [], _ => Nat.le_refl _
  | t :: ts, h => by
    have h1 := h t (by simp)
    have h2 := piled_le B ts fun x hx => h x (by simp [hx])
    have e : piled (t :: ts) = t.length + 2 + piled ts := by simp [piled]
    rw [e, List.length_cons, Nat.mul_add, Nat.mul_one]
    omega
theorem tt_len (ts : List Str) : (tupleText ts).length ≤ piled ts + 3 := by
  unfold tupleText
  rw [len_app, len_app]
  have h1 : Str.length ("(" : Str) = 1 := by decide +kernel
  have h2 : Str.length (Str.ofString (if (ts.length == 1) = true then ",)" else ")")) ≤ 2 := by split <;> decide +kernel
  cases ts with
  | nil =>
    have h3 : (Str.join ", " []).length = 0 := by decide +kernel
    omega
  | cons t ts =>
    have := join_length_add (t :: ts) (by simp)
    omega
theorem join_ok : ∀ ts : List Str, (∀ t ∈ ts, strOk t = true) → strOk (Str.join ", " ts) = true
  | [], _ => by decide +kernel
  | [x], h => h x (by simp)
  | x :: y :: r, h => by
    show strOk (x ++ ", " ++ Str.join ", " (y :: r)) = true
    exact strOk_app (strOk_app (h x (by simp)) (by decide +kernel)) (join_ok (y :: r) fun t ht => h t (by simp [ht]))
theorem tt_ok {ts : List Str} (h : ∀ t ∈ ts, strOk t = true) : strOk (tupleText ts) = true := by
  unfold tupleText
  refine strOk_app (strOk_app (by decide +kernel) (join_ok ts h)) ?_
  show strOk (Str.ofString _) = true
  split <;> decide +kernel
def pyP (p : List Bool) : PyData := .tuple (p.map fun b => .int (bI b))
theorem toPyL_b : ∀ p : List Bool, toPyL (p.map bD) = some (p.map fun b => .int (bI b))
  | [] => by simp [toPyL]
  | b :: p => by simp [toPyL, toPy, bD, toPyL_b p]
theorem toPy_p (p : List Bool) : toPy (pD p) = some (pyP p) := by simp [pD, pyP, toPy, toPyL_b]
theorem toPyL_p : ∀ ps : List (List Bool), toPyL (ps.map pD) = some (ps.map pyP)
  | [] => by simp [toPyL]
  | p :: ps => by simp [toPyL, toPy_p, toPyL_p ps]
theorem canLay_p : ∀ p : List Bool, PyData.canLayAll0 (p.map fun b => PyData.int (bI b)) = true
  | [] => by simp [PyData.canLayAll0]
  | b :: p => by simp [PyData.canLayAll0, PyData.canLay0, canLay_p p]
theorem canLay_ps : ∀ ps : List (List Bool), PyData.canLayAll0 (ps.map pyP) = true
  | [] => by simp [PyData.canLayAll0]
  | p :: ps => by simp [PyData.canLayAll0, pyP, PyData.canLay0, canLay_p, canLay_ps ps]
theorem depth_p : ∀ p : List Bool, PyData.depthAll (p.map fun b => PyData.int (bI b)) = 0
  | [] => by simp [PyData.depthAll]
  | b :: p => by simp [PyData.depthAll, PyData.depth, depth_p p]
theorem depth_ps : ∀ ps : List (List Bool), PyData.depthAll (ps.map pyP) ≤ 1
  | [] => by simp [PyData.depthAll]
  | p :: ps => by
    have := depth_ps ps
    simp [PyData.depthAll, pyP, PyData.depth, depth_p]
    exact Nat.max_le.mpr ⟨Nat.le_refl _, this⟩
theorem bI_small (b : Bool) : (bI b).natAbs.log2 < 1920 := by cases b <;> decide +kernel
theorem show_p : ∀ p : List Bool, PyData.showableAll (p.map fun b => PyData.int (bI b)) = true
  | [] => by simp [PyData.showableAll]
  | b :: p => by simp [PyData.showableAll, PyData.showable, bI_small, show_p p]
theorem show_ps : ∀ ps : List (List Bool), PyData.showableAll (ps.map pyP) = true
  | [] => by simp [PyData.showableAll]
  | p :: ps => by simp [PyData.showableAll, pyP, PyData.showable, show_p, show_ps ps]
theorem shownAll_map : ∀ xs : List PyData, PyData.shownAll xs = xs.map PyData.shown
  | [] => by simp [PyData.shownAll]
  | x :: xs => by simp [PyData.shownAll, shownAll_map xs]
theorem bit_len (b : Bool) : (PyData.shown (.int (bI b))).length = 1 := by cases b <;> decide +kernel
theorem bit_ok (b : Bool) : strOk (PyData.shown (.int (bI b))) = true := by cases b <;> decide +kernel
theorem shown_p (p : List Bool) (h : p.length ≤ 60) : (PyData.shown (pyP p)).length ≤ 200 ∧ strOk (PyData.shown (pyP p)) = true := by
  have e : PyData.shown (pyP p) = tupleText ((p.map fun b => PyData.int (bI b)).map PyData.shown) := by
    simp only [pyP, PyData.shown, shownAll_map]
  rw [e]
  constructor
  · have h1 := tt_len ((p.map fun b => PyData.int (bI b)).map PyData.shown)
    have h2 := piled_le 1 ((p.map fun b => PyData.int (bI b)).map PyData.shown) (fun t ht => by
      simp only [List.map_map, List.mem_map, Function.comp] at ht
      obtain ⟨b, _, rfl⟩ := ht
      rw [bit_len]
      exact Nat.le_refl _)
    simp only [List.length_map] at h2
    omega
  · refine tt_ok fun t ht => ?_
    simp only [List.map_map, List.mem_map, Function.comp] at ht
    obtain ⟨b, _, rfl⟩ := ht
    exact bit_ok b
theorem repr_ps (ps : List (List Bool)) (h : ∀ p ∈ ps, p.length ≤ 60) (hn : ps.length ≤ 200) : ∃ s, reprD (.tup (ps.map pD)) = some (dS s) ∧ strOk s = true := by
  have e : PyData.shown (.tuple (ps.map pyP)) = tupleText ((ps.map pyP).map PyData.shown) := by
    simp only [PyData.shown, shownAll_map]
  refine ⟨PyData.shown (.tuple (ps.map pyP)), ?_, ?_⟩
  · unfold reprD
    simp only [toPy, toPyL_p, Option.map_some, Option.bind_some]
    rw [if_pos]
    refine ⟨by simp only [PyData.canLay0, canLay_ps], by simp only [PyData.showable, show_ps], ?_, ?_⟩
    · have := depth_ps ps
      simp only [PyData.depth]
      omega
    · rw [e]
      have h1 := tt_len ((ps.map pyP).map PyData.shown)
      have h2 := piled_le 200 ((ps.map pyP).map PyData.shown) (fun t ht => by
        simp only [List.map_map, List.mem_map, Function.comp] at ht
        obtain ⟨p, hp, rfl⟩ := ht
        exact (shown_p p (h p hp)).1)
      simp only [List.length_map] at h2
      rw [big]
      have : (200 + 2) * ps.length ≤ 202 * 200 := Nat.mul_le_mul_left _ hn
      omega
  · rw [e]
    refine tt_ok fun t ht => ?_
    simp only [List.map_map, List.mem_map, Function.comp] at ht
    obtain ⟨p, hp, rfl⟩ := ht
    exact (shown_p p (h p hp)).2
theorem small_int : ∀ k : Nat, k < 130 → (PyData.shown (.int (k : Nat))).length ≤ 5 ∧ strOk (PyData.shown (.int (k : Nat))) = true ∧ (k : Int).natAbs.log2 < 1920 := by decide +kernel
theorem repr_int (k : Nat) (h : k < 130) : ∃ s, reprD (.int k) = some (dS s) ∧ strOk s = true := by
  obtain ⟨h1, h2, h3⟩ := small_int k h
  refine ⟨_, ?_, h2⟩
  unfold reprD
  simp only [toPy, Option.bind_some]
  rw [if_pos]
  exact ⟨rfl, by simp only [PyData.showable, h3, decide_true], by simp only [PyData.depth]; decide, by rw [big]; omega⟩
theorem many_range : ∀ t : T, 2 ≤ t.many ∧ t.many ≤ t.leaves + 1
  | .leaf _ => by simp [T.many, T.leaves]
  | .node r a b => by
    have h1 := many_range a
    have h2 := many_range b
    cases r <;> simp only [T.many, T.leaves] <;> omega
theorem repr_many (t : T) (h : t.leaves ≤ 60) : ∃ s, reprD (.int t.many) = some (dS s) ∧ strOk s = true := by
  have := many_range t
  obtain ⟨k, hk⟩ := Int.eq_ofNat_of_zero_le (show 0 ≤ t.many by omega)
  rw [hk]
  exact repr_int k (by omega)
theorem ne_self {x : Str} (h : strOk x = true) : neD (.str x) (.str x) = some (dB false) := by rw [neD_str h h, beq_self_eq_true]; rfl
theorem eq_self {x : Str} (h : strOk x = true) : eqD (.str x) (.str x) = some (dB true) := by rw [eqD_str h h, beq_self_eq_true]
theorem pOk_list2 {x y : Str} (h : strOk x = true) (h' : strOk y = true) : neD (.lst [.str x, .str y]) (.lst [.str x, .str y]) = some (dB false) := by
  have e : pyOk (.lst [.str x, .str y]) = some (.list [.str x, .str y]) := by
    unfold pyOk
    simp only [toPy, toPyL, Option.bind_some, Option.map_some]
    rw [if_pos]
    unfold SeqAt.shaped
    simp only [PyData.canLay0, PyData.canLayAll0, PyData.depth, PyData.depthAll, h, h', Bool.true_and]
    rfl
  unfold neD
  rw [e]
  simp only [Option.bind_some, Option.map_some, PyData.eqv, PyData.eqvAll, beq_self_eq_true, Bool.and_self, Bool.not_true]
theorem ne_nil2 : neD (.lst []) (.lst []) = some (dB false) := by
  have e : pyOk (.lst []) = some (.list []) := by
    unfold pyOk
    simp only [toPy, toPyL, Option.bind_some, Option.map_some]
    rw [if_pos]
    rfl
  unfold neD
  rw [e]
  rfl
theorem text_prop (t : T) : objN 0 fn_Building_text [t.obj] = some (.str t.text, false) := by
  have i1 : isObj 0 t.obj = true := by rw [obj_eq]; rfl
  unfold objN
  simp only [i1, fn_Building_text, m_Building_text, fld_text, noX, fnSem, en0, pre0, ioOf, mSeq, mIfS, mRet, mRetN, mAsg, mAsgO, mExpr, mNext, mDead, mTest, mAnd, mOr, mNot, mIf, mAndV, mOrV, mNotV, notD, mChain, mOp1, mOp2, mC, mVar, mCall, mCons, mNil, mTup, mLst, mStar, mCallV, mCallD, mPar, mAsgG, gT, gTs, gN, setV, notIo, nxt, Rs.bind, lift, asB, one1, two1, ixD, addD, subD, lenT, lenL, lenSc, tupD, intD, eq0, dI, dB, dS, List.length_cons, List.length_nil, List.map_cons, List.map_nil, List.append_nil, List.nil_append, List.cons_append, List.getElem?_cons_zero, List.getElem?_cons_succ, List.set_cons_zero, List.set_cons_succ, List.replicate, Option.bind_some, Option.map_some, Option.bind, Nat.zero_add, Nat.add_zero, Nat.reduceAdd, Nat.reduceSub, Nat.reduceEqDiff, if_true, if_false, reduceIte, Bool.false_eq_true, Bool.not_true, Bool.not_false, isSs, isSt, isTt, isTs, isIi, isBi, Nat.reduceLT, decide_true, decide_false, mSetF, clsAt, fldS, muOf, Sl.get, Sl.put, putD, mSetFs, fldsT, fldsS, allS, mMake, mMakeL, mCm, fnN, mJs, itSeq, mMeth, beq_self_eq_true, and_self, List.isEmpty_nil, List.isEmpty_cons, Option.map, big, Nat.reduceLeDiff, Nat.zero_le, Nat.le_refl]
theorem parts_prop (r : Bool) (a b : T) : objN 0 fn_Building_parts [(T.node r a b).obj] = some (.tup [a.obj, b.obj], false) := by
  have i1 : isObj 0 (T.node r a b).obj = true := by rw [obj_eq]; rfl
  have e := fld_parts r a b
  unfold objN
  simp only [i1, fn_Building_parts, m_Building_parts, e, noX, fnSem, en0, pre0, ioOf, mSeq, mIfS, mRet, mRetN, mAsg, mAsgO, mExpr, mNext, mDead, mTest, mAnd, mOr, mNot, mIf, mAndV, mOrV, mNotV, notD, mChain, mOp1, mOp2, mC, mVar, mCall, mCons, mNil, mTup, mLst, mStar, mCallV, mCallD, mPar, mAsgG, gT, gTs, gN, setV, notIo, nxt, Rs.bind, lift, asB, one1, two1, ixD, addD, subD, lenT, lenL, lenSc, tupD, intD, eq0, dI, dB, dS, List.length_cons, List.length_nil, List.map_cons, List.map_nil, List.append_nil, List.nil_append, List.cons_append, List.getElem?_cons_zero, List.getElem?_cons_succ, List.set_cons_zero, List.set_cons_succ, List.replicate, Option.bind_some, Option.map_some, Option.bind, Nat.zero_add, Nat.add_zero, Nat.reduceAdd, Nat.reduceSub, Nat.reduceEqDiff, if_true, if_false, reduceIte, Bool.false_eq_true, Bool.not_true, Bool.not_false, isSs, isSt, isTt, isTs, isIi, isBi, Nat.reduceLT, decide_true, decide_false, mSetF, clsAt, fldS, muOf, Sl.get, Sl.put, putD, mSetFs, fldsT, fldsS, allS, mMake, mMakeL, mCm, fnN, mJs, itSeq, mMeth, beq_self_eq_true, and_self, List.isEmpty_nil, List.isEmpty_cons, Option.map, big, Nat.reduceLeDiff, Nat.zero_le, Nat.le_refl]
theorem parts_prop0 (b : Bool) : objN 0 fn_Building_parts [(T.leaf b).obj] = some (.tup [], false) := by
  have i1 : isObj 0 (T.leaf b).obj = true := by rw [obj_eq]; rfl
  have e := fld_parts0 b
  unfold objN
  simp only [i1, fn_Building_parts, m_Building_parts, e, noX, fnSem, en0, pre0, ioOf, mSeq, mIfS, mRet, mRetN, mAsg, mAsgO, mExpr, mNext, mDead, mTest, mAnd, mOr, mNot, mIf, mAndV, mOrV, mNotV, notD, mChain, mOp1, mOp2, mC, mVar, mCall, mCons, mNil, mTup, mLst, mStar, mCallV, mCallD, mPar, mAsgG, gT, gTs, gN, setV, notIo, nxt, Rs.bind, lift, asB, one1, two1, ixD, addD, subD, lenT, lenL, lenSc, tupD, intD, eq0, dI, dB, dS, List.length_cons, List.length_nil, List.map_cons, List.map_nil, List.append_nil, List.nil_append, List.cons_append, List.getElem?_cons_zero, List.getElem?_cons_succ, List.set_cons_zero, List.set_cons_succ, List.replicate, Option.bind_some, Option.map_some, Option.bind, Nat.zero_add, Nat.add_zero, Nat.reduceAdd, Nat.reduceSub, Nat.reduceEqDiff, if_true, if_false, reduceIte, Bool.false_eq_true, Bool.not_true, Bool.not_false, isSs, isSt, isTt, isTs, isIi, isBi, Nat.reduceLT, decide_true, decide_false, mSetF, clsAt, fldS, muOf, Sl.get, Sl.put, putD, mSetFs, fldsT, fldsS, allS, mMake, mMakeL, mCm, fnN, mJs, itSeq, mMeth, beq_self_eq_true, and_self, List.isEmpty_nil, List.isEmpty_cons, Option.map, big, Nat.reduceLeDiff, Nat.zero_le, Nat.le_refl]
theorem paths_prop (t : T) (h : t.leaves ≤ 60) : objN 0 fn_Building_paths [t.obj] = some (.tup (t.paths.map pD), false) := by
  have i1 : isObj 0 t.obj = true := by rw [obj_eq]; rfl
  have e := below_ok t 64 (by omega) h
  unfold objN
  simp only [i1, fn_Building_paths, m_Building_paths, e, noX, fnSem, en0, pre0, ioOf, mSeq, mIfS, mRet, mRetN, mAsg, mAsgO, mExpr, mNext, mDead, mTest, mAnd, mOr, mNot, mIf, mAndV, mOrV, mNotV, notD, mChain, mOp1, mOp2, mC, mVar, mCall, mCons, mNil, mTup, mLst, mStar, mCallV, mCallD, mPar, mAsgG, gT, gTs, gN, setV, notIo, nxt, Rs.bind, lift, asB, one1, two1, ixD, addD, subD, lenT, lenL, lenSc, tupD, intD, eq0, dI, dB, dS, List.length_cons, List.length_nil, List.map_cons, List.map_nil, List.append_nil, List.nil_append, List.cons_append, List.getElem?_cons_zero, List.getElem?_cons_succ, List.set_cons_zero, List.set_cons_succ, List.replicate, Option.bind_some, Option.map_some, Option.bind, Nat.zero_add, Nat.add_zero, Nat.reduceAdd, Nat.reduceSub, Nat.reduceEqDiff, if_true, if_false, reduceIte, Bool.false_eq_true, Bool.not_true, Bool.not_false, isSs, isSt, isTt, isTs, isIi, isBi, Nat.reduceLT, decide_true, decide_false, mSetF, clsAt, fldS, muOf, Sl.get, Sl.put, putD, mSetFs, fldsT, fldsS, allS, mMake, mMakeL, mCm, fnN, mJs, itSeq, mMeth, beq_self_eq_true, and_self, List.isEmpty_nil, List.isEmpty_cons, Option.map, big, Nat.reduceLeDiff, Nat.zero_le, Nat.le_refl]
theorem leI_int (i j : Int) : leI (.int i) (.int j) = some (dB (decide (i ≤ j))) := rfl
theorem ltI_int (i j : Int) : ltI (.int i) (.int j) = some (dB (decide (i < j))) := rfl
theorem gtI_int (i j : Int) : gtI (.int i) (.int j) = some (dB (decide (j < i))) := rfl
theorem z2 : ((2 : Nat) : Int) = 2 := rfl
/-! ### parts -/
def T.ok : T → List Bool → Prop
  | _, [] => True
  | .leaf _, _ :: _ => False
  | .node _ a _, false :: p => a.ok p
  | .node _ _ b, true :: p => b.ok p
theorem ok_nil (t : T) : t.ok [] := by cases t <;> trivial
theorem mem_paths : ∀ (t : T) (p : List Bool), p ∈ t.paths ↔ t.ok p
  | .leaf _, p => by cases p <;> simp [T.paths, T.ok]
  | .node _ a b, [] => by simp [T.paths, T.ok]
  | .node _ a b, false :: p => by simp [T.paths, T.ok, mem_paths a p]
  | .node _ a b, true :: p => by simp [T.paths, T.ok, mem_paths b p]
def T.at : T → List Bool → T
  | t, [] => t
  | t, b :: p => (t.kid b).at p
theorem at_leaves : ∀ (p : List Bool) (t : T), t.ok p → (t.at p).leaves ≤ t.leaves
  | [], t, _ => by cases t <;> exact Nat.le_refl _
  | x :: p, .leaf _, h => h.elim
  | false :: p, .node _ a b, h => by have := at_leaves p a h; simp only [T.leaves, T.at, T.kid]; omega
  | true :: p, .node _ a b, h => by have := at_leaves p b h; simp only [T.leaves, T.at, T.kid]; omega
def T.put : T → List Bool → T → T
  | _, [], o => o
  | .node r a b, false :: p, o => .node r (a.put p o) b
  | .node r a b, true :: p, o => .node r a (b.put p o)
  | t, _, _ => t
theorem put_nil (t o : T) : t.put [] o = o := by cases t <;> rfl
theorem put_leaves : ∀ (p : List Bool) (t o : T), t.ok p → (t.put p o).leaves + (t.at p).leaves = t.leaves + o.leaves
  | [], t, o, _ => by rw [put_nil]; cases t <;> simp only [T.at] <;> omega
  | x :: p, .leaf _, o, h => h.elim
  | false :: p, .node _ a b, o, h => by have := put_leaves p a o h; simp only [T.leaves, T.at, T.kid, T.put]; omega
  | true :: p, .node _ a b, o, h => by have := put_leaves p b o h; simp only [T.leaves, T.at, T.kid, T.put]; omega
theorem plain_node (r : Bool) (a b : T) : (T.node r a b).plain = .tup [.str (T.node r a b).word, a.plain, b.plain] := by cases r <;> rfl
theorem l_part_loop : ∀ (p : List Bool) (t : T) (x y : D) (s : Sl), t.ok p → notIo (some s) = true → ∃ s', notIo (some s') = true ∧ mLoop (gN 3) (mAsg 2 (mOp2 ixD (mVar 2) (mOp2 addD (mVar 3) (mC (.int 1))))) (p.map bD) [.val x, .val y, .val t.plain, s] = .ok .nx [.val x, .val y, .val (t.at p).plain, s']
  | [], t, x, y, s, _, hs => ⟨s, hs, by cases t <;> simp only [List.map_nil, mLoop, T.at]⟩
  | c :: p, .leaf _, x, y, s, h, hs => h.elim
  | false :: p, .node r a b, x, y, s, h, hs => by
    obtain ⟨s', h1, h2⟩ := l_part_loop p a x y (.val (.int 0)) h rfl
    refine ⟨s', h1, ?_⟩
    rw [plain_node]
    cases s <;> first | (cases hs; done) | simp only [bD, bI, mLoop, at1, h2, T.at, T.kid, Int.reduceAdd, noX, fnSem, en0, pre0, ioOf, mSeq, mIfS, mRet, mRetN, mAsg, mAsgO, mExpr, mNext, mDead, mTest, mAnd, mOr, mNot, mIf, mAndV, mOrV, mNotV, notD, mChain, mOp1, mOp2, mC, mVar, mCall, mCons, mNil, mTup, mLst, mStar, mCallV, mCallD, mPar, mAsgG, gT, gTs, gN, setV, notIo, nxt, Rs.bind, lift, asB, one1, two1, ixD, addD, subD, lenT, lenL, lenSc, tupD, intD, eq0, dI, dB, dS, List.length_cons, List.length_nil, List.map_cons, List.map_nil, List.append_nil, List.nil_append, List.cons_append, List.getElem?_cons_zero, List.getElem?_cons_succ, List.set_cons_zero, List.set_cons_succ, List.replicate, Option.bind_some, Option.map_some, Option.bind, Nat.zero_add, Nat.add_zero, Nat.reduceAdd, Nat.reduceSub, Nat.reduceEqDiff, if_true, if_false, reduceIte, Bool.false_eq_true, Bool.not_true, Bool.not_false, isSs, isSt, isTt, isTs, isIi, isBi, Nat.reduceLT, decide_true, decide_false, mSetF, clsAt, fldS, muOf, Sl.get, Sl.put, putD, mSetFs, fldsT, fldsS, allS, mMake, mMakeL, mCm, fnN, mJs, itSeq, mMeth, beq_self_eq_true, and_self, List.isEmpty_nil, List.isEmpty_cons, Option.map, big, Nat.reduceLeDiff, Nat.zero_le, Nat.le_refl]
  | true :: p, .node r a b, x, y, s, h, hs => by
    obtain ⟨s', h1, h2⟩ := l_part_loop p b x y (.val (.int 1)) h rfl
    refine ⟨s', h1, ?_⟩
    rw [plain_node]
    cases s <;> first | (cases hs; done) | simp only [bD, bI, mLoop, at2, h2, T.at, T.kid, Int.reduceAdd, noX, fnSem, en0, pre0, ioOf, mSeq, mIfS, mRet, mRetN, mAsg, mAsgO, mExpr, mNext, mDead, mTest, mAnd, mOr, mNot, mIf, mAndV, mOrV, mNotV, notD, mChain, mOp1, mOp2, mC, mVar, mCall, mCons, mNil, mTup, mLst, mStar, mCallV, mCallD, mPar, mAsgG, gT, gTs, gN, setV, notIo, nxt, Rs.bind, lift, asB, one1, two1, ixD, addD, subD, lenT, lenL, lenSc, tupD, intD, eq0, dI, dB, dS, List.length_cons, List.length_nil, List.map_cons, List.map_nil, List.append_nil, List.nil_append, List.cons_append, List.getElem?_cons_zero, List.getElem?_cons_succ, List.set_cons_zero, List.set_cons_succ, List.replicate, Option.bind_some, Option.map_some, Option.bind, Nat.zero_add, Nat.add_zero, Nat.reduceAdd, Nat.reduceSub, Nat.reduceEqDiff, if_true, if_false, reduceIte, Bool.false_eq_true, Bool.not_true, Bool.not_false, isSs, isSt, isTt, isTs, isIi, isBi, Nat.reduceLT, decide_true, decide_false, mSetF, clsAt, fldS, muOf, Sl.get, Sl.put, putD, mSetFs, fldsT, fldsS, allS, mMake, mMakeL, mCm, fnN, mJs, itSeq, mMeth, beq_self_eq_true, and_self, List.isEmpty_nil, List.isEmpty_cons, Option.map, big, Nat.reduceLeDiff, Nat.zero_le, Nat.le_refl]
theorem int_ok (b : Bool) : fn_is_integer none [bD b] = .ret (.bl true, false) none := by
  have w : fn_is_whole none [bD b] = .ret (.bl true, false) none := by simp only [fn_is_whole, m_is_whole, bD, noX, fnSem, en0, pre0, ioOf, mSeq, mIfS, mRet, mRetN, mAsg, mAsgO, mExpr, mNext, mDead, mTest, mAnd, mOr, mNot, mIf, mAndV, mOrV, mNotV, notD, mChain, mOp1, mOp2, mC, mVar, mCall, mCons, mNil, mTup, mLst, mStar, mCallV, mCallD, mPar, mAsgG, gT, gTs, gN, setV, notIo, nxt, Rs.bind, lift, asB, one1, two1, ixD, addD, subD, lenT, lenL, lenSc, tupD, intD, eq0, dI, dB, dS, List.length_cons, List.length_nil, List.map_cons, List.map_nil, List.append_nil, List.nil_append, List.cons_append, List.getElem?_cons_zero, List.getElem?_cons_succ, List.set_cons_zero, List.set_cons_succ, List.replicate, Option.bind_some, Option.map_some, Option.bind, Nat.zero_add, Nat.add_zero, Nat.reduceAdd, Nat.reduceSub, Nat.reduceEqDiff, if_true, if_false, reduceIte, Bool.false_eq_true, Bool.not_true, Bool.not_false, isSs, isSt, isTt, isTs, isIi, isBi, Nat.reduceLT, decide_true, decide_false, mSetF, clsAt, fldS, muOf, Sl.get, Sl.put, putD, mSetFs, fldsT, fldsS, allS, mMake, mMakeL, mCm, fnN, mJs, itSeq, mMeth, beq_self_eq_true, and_self, List.isEmpty_nil, List.isEmpty_cons, Option.map, big, Nat.reduceLeDiff, Nat.zero_le, Nat.le_refl]
  have d1 : decide ((-1000000000000000000000000000000000000000000000000000000000000 : Int) < bI b) = true := by cases b <;> decide
  have d2 : decide (bI b < (1000000000000000000000000000000000000000000000000000000000000 : Int)) = true := by cases b <;> decide
  simp only [bD] at w ⊢
  simp only [fn_is_integer, m_is_integer, w, negD, ltI, int2_int, Int.reduceNeg, d1, d2, noX, fnSem, en0, pre0, ioOf, mSeq, mIfS, mRet, mRetN, mAsg, mAsgO, mExpr, mNext, mDead, mTest, mAnd, mOr, mNot, mIf, mAndV, mOrV, mNotV, notD, mChain, mOp1, mOp2, mC, mVar, mCall, mCons, mNil, mTup, mLst, mStar, mCallV, mCallD, mPar, mAsgG, gT, gTs, gN, setV, notIo, nxt, Rs.bind, lift, asB, one1, two1, ixD, addD, subD, lenT, lenL, lenSc, tupD, intD, eq0, dI, dB, dS, List.length_cons, List.length_nil, List.map_cons, List.map_nil, List.append_nil, List.nil_append, List.cons_append, List.getElem?_cons_zero, List.getElem?_cons_succ, List.set_cons_zero, List.set_cons_succ, List.replicate, Option.bind_some, Option.map_some, Option.bind, Nat.zero_add, Nat.add_zero, Nat.reduceAdd, Nat.reduceSub, Nat.reduceEqDiff, if_true, if_false, reduceIte, Bool.false_eq_true, Bool.not_true, Bool.not_false, isSs, isSt, isTt, isTs, isIi, isBi, Nat.reduceLT, decide_true, decide_false, mSetF, clsAt, fldS, muOf, Sl.get, Sl.put, putD, mSetFs, fldsT, fldsS, allS, mMake, mMakeL, mCm, fnN, mJs, itSeq, mMeth, beq_self_eq_true, and_self, List.isEmpty_nil, List.isEmpty_cons, Option.map, big, Nat.reduceLeDiff, Nat.zero_le, Nat.le_refl]
theorem part_at_loop : ∀ (p : List Bool) (t : T) (x y : D) (s : Sl), t.ok p → notIo (some s) = true → ∃ s', notIo (some s') = true ∧ p_part_at_0 = p_part_at_0 ∧ mLoop (gN 3) (mSeq (mIfS (mOr (mNot (mTest (mCallV fn_is_integer (mCons (mVar 3) mNil)))) (mNot (mTest (mChain leI ltI (mC (.int 0)) (mVar 3) (mCall (one1 lenD) (mCons (mOp1 (fldD ix_own_parts) (mVar 2)) mNil)))))) mDead mNext)
    (mAsg 2 (mOp2 ixD (mOp1 (fldD ix_own_parts) (mVar 2)) (mVar 3)))) (p.map bD) [.val x, .val y, .val t.obj, s] = .ok .nx [.val x, .val y, .val (t.at p).obj, s']
  | [], t, x, y, s, _, hs => ⟨s, hs, rfl, by cases t <;> simp only [List.map_nil, mLoop, T.at]⟩
  | c :: p, .leaf _, x, y, s, h, hs => h.elim
  | false :: p, .node r a b, x, y, s, h, hs => by
    obtain ⟨s', h1, _, h2⟩ := part_at_loop p a x y (.val (.int 0)) h rfl
    refine ⟨s', h1, rfl, ?_⟩
    have i := int_ok false
    have f := fld_parts r a b
    simp only [bD, bI] at i
    generalize (T.node r a b).obj = o at f ⊢
    cases s <;> first | (cases hs; done) | simp only [bD, bI, mLoop, at0, h2, T.at, T.kid, i, f, leI_int, ltI_int, z2, Int.reduceLE, Int.reduceLT, Int.reduceAdd, Int.le_refl, noX, fnSem, en0, pre0, ioOf, mSeq, mIfS, mRet, mRetN, mAsg, mAsgO, mExpr, mNext, mDead, mTest, mAnd, mOr, mNot, mIf, mAndV, mOrV, mNotV, notD, mChain, mOp1, mOp2, mC, mVar, mCall, mCons, mNil, mTup, mLst, mStar, mCallV, mCallD, mPar, mAsgG, gT, gTs, gN, setV, notIo, nxt, Rs.bind, lift, asB, one1, two1, ixD, addD, subD, lenT, lenL, lenSc, tupD, intD, eq0, dI, dB, dS, List.length_cons, List.length_nil, List.map_cons, List.map_nil, List.append_nil, List.nil_append, List.cons_append, List.getElem?_cons_zero, List.getElem?_cons_succ, List.set_cons_zero, List.set_cons_succ, List.replicate, Option.bind_some, Option.map_some, Option.bind, Nat.zero_add, Nat.add_zero, Nat.reduceAdd, Nat.reduceSub, Nat.reduceEqDiff, if_true, if_false, reduceIte, Bool.false_eq_true, Bool.not_true, Bool.not_false, isSs, isSt, isTt, isTs, isIi, isBi, Nat.reduceLT, decide_true, decide_false, mSetF, clsAt, fldS, muOf, Sl.get, Sl.put, putD, mSetFs, fldsT, fldsS, allS, mMake, mMakeL, mCm, fnN, mJs, itSeq, mMeth, beq_self_eq_true, and_self, List.isEmpty_nil, List.isEmpty_cons, Option.map, big, Nat.reduceLeDiff, Nat.zero_le, Nat.le_refl]
  | true :: p, .node r a b, x, y, s, h, hs => by
    obtain ⟨s', h1, _, h2⟩ := part_at_loop p b x y (.val (.int 1)) h rfl
    refine ⟨s', h1, rfl, ?_⟩
    have i := int_ok true
    have f := fld_parts r a b
    simp only [bD, bI] at i
    generalize (T.node r a b).obj = o at f ⊢
    cases s <;> first | (cases hs; done) | simp only [bD, bI, mLoop, at1, h2, T.at, T.kid, i, f, leI_int, ltI_int, z2, Int.reduceLE, Int.reduceLT, Int.reduceAdd, Int.le_refl, noX, fnSem, en0, pre0, ioOf, mSeq, mIfS, mRet, mRetN, mAsg, mAsgO, mExpr, mNext, mDead, mTest, mAnd, mOr, mNot, mIf, mAndV, mOrV, mNotV, notD, mChain, mOp1, mOp2, mC, mVar, mCall, mCons, mNil, mTup, mLst, mStar, mCallV, mCallD, mPar, mAsgG, gT, gTs, gN, setV, notIo, nxt, Rs.bind, lift, asB, one1, two1, ixD, addD, subD, lenT, lenL, lenSc, tupD, intD, eq0, dI, dB, dS, List.length_cons, List.length_nil, List.map_cons, List.map_nil, List.append_nil, List.nil_append, List.cons_append, List.getElem?_cons_zero, List.getElem?_cons_succ, List.set_cons_zero, List.set_cons_succ, List.replicate, Option.bind_some, Option.map_some, Option.bind, Nat.zero_add, Nat.add_zero, Nat.reduceAdd, Nat.reduceSub, Nat.reduceEqDiff, if_true, if_false, reduceIte, Bool.false_eq_true, Bool.not_true, Bool.not_false, isSs, isSt, isTt, isTs, isIi, isBi, Nat.reduceLT, decide_true, decide_false, mSetF, clsAt, fldS, muOf, Sl.get, Sl.put, putD, mSetFs, fldsT, fldsS, allS, mMake, mMakeL, mCm, fnN, mJs, itSeq, mMeth, beq_self_eq_true, and_self, List.isEmpty_nil, List.isEmpty_cons, Option.map, big, Nat.reduceLeDiff, Nat.zero_le, Nat.le_refl]
theorem part_at_ok (t : T) (p : List Bool) (h : t.ok p) : fn_part_at none [t.obj, pD p] = .ret ((t.at p).obj, false) none := by
  obtain ⟨s', _, _, e⟩ := part_at_loop p t t.obj (.tup (p.map bD)) .non h rfl
  simp only [pD, fn_part_at, m_part_at, p_part_at_0, mFor, mIt, itT, e, noX, fnSem, en0, pre0, ioOf, mSeq, mIfS, mRet, mRetN, mAsg, mAsgO, mExpr, mNext, mDead, mTest, mAnd, mOr, mNot, mIf, mAndV, mOrV, mNotV, notD, mChain, mOp1, mOp2, mC, mVar, mCall, mCons, mNil, mTup, mLst, mStar, mCallV, mCallD, mPar, mAsgG, gT, gTs, gN, setV, notIo, nxt, Rs.bind, lift, asB, one1, two1, ixD, addD, subD, lenT, lenL, lenSc, tupD, intD, eq0, dI, dB, dS, List.length_cons, List.length_nil, List.map_cons, List.map_nil, List.append_nil, List.nil_append, List.cons_append, List.getElem?_cons_zero, List.getElem?_cons_succ, List.set_cons_zero, List.set_cons_succ, List.replicate, Option.bind_some, Option.map_some, Option.bind, Nat.zero_add, Nat.add_zero, Nat.reduceAdd, Nat.reduceSub, Nat.reduceEqDiff, if_true, if_false, reduceIte, Bool.false_eq_true, Bool.not_true, Bool.not_false, isSs, isSt, isTt, isTs, isIi, isBi, Nat.reduceLT, decide_true, decide_false, mSetF, clsAt, fldS, muOf, Sl.get, Sl.put, putD, mSetFs, fldsT, fldsS, allS, mMake, mMakeL, mCm, fnN, mJs, itSeq, mMeth, beq_self_eq_true, and_self, List.isEmpty_nil, List.isEmpty_cons, Option.map, big, Nat.reduceLeDiff, Nat.zero_le, Nat.le_refl]
theorem at_ok (t : T) (p : List Bool) (h : t.ok p) : fn_Building_at none [t.obj, pD p] = .ret ((t.at p).obj, false) none := by
  have e := part_at_ok t p h
  simp only [fn_Building_at, m_Building_at, e, noX, fnSem, en0, pre0, ioOf, mSeq, mIfS, mRet, mRetN, mAsg, mAsgO, mExpr, mNext, mDead, mTest, mAnd, mOr, mNot, mIf, mAndV, mOrV, mNotV, notD, mChain, mOp1, mOp2, mC, mVar, mCall, mCons, mNil, mTup, mLst, mStar, mCallV, mCallD, mPar, mAsgG, gT, gTs, gN, setV, notIo, nxt, Rs.bind, lift, asB, one1, two1, ixD, addD, subD, lenT, lenL, lenSc, tupD, intD, eq0, dI, dB, dS, List.length_cons, List.length_nil, List.map_cons, List.map_nil, List.append_nil, List.nil_append, List.cons_append, List.getElem?_cons_zero, List.getElem?_cons_succ, List.set_cons_zero, List.set_cons_succ, List.replicate, Option.bind_some, Option.map_some, Option.bind, Nat.zero_add, Nat.add_zero, Nat.reduceAdd, Nat.reduceSub, Nat.reduceEqDiff, if_true, if_false, reduceIte, Bool.false_eq_true, Bool.not_true, Bool.not_false, isSs, isSt, isTt, isTs, isIi, isBi, Nat.reduceLT, decide_true, decide_false, mSetF, clsAt, fldS, muOf, Sl.get, Sl.put, putD, mSetFs, fldsT, fldsS, allS, mMake, mMakeL, mCm, fnN, mJs, itSeq, mMeth, beq_self_eq_true, and_self, List.isEmpty_nil, List.isEmpty_cons, Option.map, big, Nat.reduceLeDiff, Nat.zero_le, Nat.le_refl]
/-! ### another part put in -/
theorem cut1 (x : D) (xs : List D) : slD (.tup (x :: xs)) (some 1) none = some (.tup xs, false) := by
  have e : HT.sIx (x :: xs).length 0 (some 1) = 1 := by
    have := HT.sIx_nat (x :: xs).length 0 1
    rw [show ((1 : Nat) : Int) = 1 from rfl] at this
    rw [this, List.length_cons]
    omega
  show some ((D.tup (cutD (x :: xs) (some 1) none), false) : Vl) = _
  unfold cutD
  rw [e, HT.sIx_none, List.length_cons, Nat.add_sub_cancel]
  simp
theorem eqI0 : eqD (.int 0) (.int 0) = some (dB true) := rfl
theorem eqI1 : eqD (.int 1) (.int 0) = some (dB false) := rfl
theorem with_ok : ∀ (p : List Bool) (t o : T) (n : Nat), t.ok p → p.length < n → (t.put p o).leaves ≤ 60 → fn_with_part n none [t.obj, pD p, o.obj] = .ret ((t.put p o).obj, false) none
  | p, t, o, 0, _, h, _ => by omega
  | [], t, o, n + 1, _, _, _ => by
    rw [put_nil]
    simp only [fn_with_part, m_with_part, pD, noX, fnSem, en0, pre0, ioOf, mSeq, mIfS, mRet, mRetN, mAsg, mAsgO, mExpr, mNext, mDead, mTest, mAnd, mOr, mNot, mIf, mAndV, mOrV, mNotV, notD, mChain, mOp1, mOp2, mC, mVar, mCall, mCons, mNil, mTup, mLst, mStar, mCallV, mCallD, mPar, mAsgG, gT, gTs, gN, setV, notIo, nxt, Rs.bind, lift, asB, one1, two1, ixD, addD, subD, lenT, lenL, lenSc, tupD, intD, eq0, dI, dB, dS, List.length_cons, List.length_nil, List.map_cons, List.map_nil, List.append_nil, List.nil_append, List.cons_append, List.getElem?_cons_zero, List.getElem?_cons_succ, List.set_cons_zero, List.set_cons_succ, List.replicate, Option.bind_some, Option.map_some, Option.bind, Nat.zero_add, Nat.add_zero, Nat.reduceAdd, Nat.reduceSub, Nat.reduceEqDiff, if_true, if_false, reduceIte, Bool.false_eq_true, Bool.not_true, Bool.not_false, isSs, isSt, isTt, isTs, isIi, isBi, Nat.reduceLT, decide_true, decide_false, mSetF, clsAt, fldS, muOf, Sl.get, Sl.put, putD, mSetFs, fldsT, fldsS, allS, mMake, mMakeL, mCm, fnN, mJs, itSeq, mMeth, beq_self_eq_true, and_self, List.isEmpty_nil, List.isEmpty_cons, Option.map, big, Nat.reduceLeDiff, Nat.zero_le, Nat.le_refl]
  | c :: p, .leaf _, o, n + 1, h, _, _ => h.elim
  | false :: p, .node r a b, o, n + 1, h, hn, h6 => by
    simp only [T.put, T.leaves] at h6
    have ih := with_ok p a o n h (by simpa using hn) (by omega)
    have mk := mk_node r (a.put p o) b h6
    have f := fld_parts r a b
    have w := fld_word (T.node r a b)
    have ew : (T.node r (a.put p o) b).word = (T.node r a b).word := by cases r <;> rfl
    rw [ew] at mk
    show _ = Fs.ret ((T.node r (a.put p o) b).obj, false) none
    simp only [pD] at ih
    generalize (T.node r a b).obj = x at f w ⊢
    simp only [fn_with_part, m_with_part, pD, bD, bI, mSl, mPart, mNo, asI, cut1, at0, eqI0, ih, f, w, mk, noX, fnSem, en0, pre0, ioOf, mSeq, mIfS, mRet, mRetN, mAsg, mAsgO, mExpr, mNext, mDead, mTest, mAnd, mOr, mNot, mIf, mAndV, mOrV, mNotV, notD, mChain, mOp1, mOp2, mC, mVar, mCall, mCons, mNil, mTup, mLst, mStar, mCallV, mCallD, mPar, mAsgG, gT, gTs, gN, setV, notIo, nxt, Rs.bind, lift, asB, one1, two1, ixD, addD, subD, lenT, lenL, lenSc, tupD, intD, eq0, dI, dB, dS, List.length_cons, List.length_nil, List.map_cons, List.map_nil, List.append_nil, List.nil_append, List.cons_append, List.getElem?_cons_zero, List.getElem?_cons_succ, List.set_cons_zero, List.set_cons_succ, List.replicate, Option.bind_some, Option.map_some, Option.bind, Nat.zero_add, Nat.add_zero, Nat.reduceAdd, Nat.reduceSub, Nat.reduceEqDiff, if_true, if_false, reduceIte, Bool.false_eq_true, Bool.not_true, Bool.not_false, isSs, isSt, isTt, isTs, isIi, isBi, Nat.reduceLT, decide_true, decide_false, mSetF, clsAt, fldS, muOf, Sl.get, Sl.put, putD, mSetFs, fldsT, fldsS, allS, mMake, mMakeL, mCm, fnN, mJs, itSeq, mMeth, beq_self_eq_true, and_self, List.isEmpty_nil, List.isEmpty_cons, Option.map, big, Nat.reduceLeDiff, Nat.zero_le, Nat.le_refl]
  | true :: p, .node r a b, o, n + 1, h, hn, h6 => by
    simp only [T.put, T.leaves] at h6
    have ih := with_ok p b o n h (by simpa using hn) (by omega)
    have mk := mk_node r a (b.put p o) h6
    have f := fld_parts r a b
    have w := fld_word (T.node r a b)
    have ew : (T.node r a (b.put p o)).word = (T.node r a b).word := by cases r <;> rfl
    rw [ew] at mk
    show _ = Fs.ret ((T.node r a (b.put p o)).obj, false) none
    simp only [pD] at ih
    generalize (T.node r a b).obj = x at f w ⊢
    simp only [fn_with_part, m_with_part, pD, bD, bI, mSl, mPart, mNo, asI, cut1, at0, eqI1, ih, f, w, mk, noX, fnSem, en0, pre0, ioOf, mSeq, mIfS, mRet, mRetN, mAsg, mAsgO, mExpr, mNext, mDead, mTest, mAnd, mOr, mNot, mIf, mAndV, mOrV, mNotV, notD, mChain, mOp1, mOp2, mC, mVar, mCall, mCons, mNil, mTup, mLst, mStar, mCallV, mCallD, mPar, mAsgG, gT, gTs, gN, setV, notIo, nxt, Rs.bind, lift, asB, one1, two1, ixD, addD, subD, lenT, lenL, lenSc, tupD, intD, eq0, dI, dB, dS, List.length_cons, List.length_nil, List.map_cons, List.map_nil, List.append_nil, List.nil_append, List.cons_append, List.getElem?_cons_zero, List.getElem?_cons_succ, List.set_cons_zero, List.set_cons_succ, List.replicate, Option.bind_some, Option.map_some, Option.bind, Nat.zero_add, Nat.add_zero, Nat.reduceAdd, Nat.reduceSub, Nat.reduceEqDiff, if_true, if_false, reduceIte, Bool.false_eq_true, Bool.not_true, Bool.not_false, isSs, isSt, isTt, isTs, isIi, isBi, Nat.reduceLT, decide_true, decide_false, mSetF, clsAt, fldS, muOf, Sl.get, Sl.put, putD, mSetFs, fldsT, fldsS, allS, mMake, mMakeL, mCm, fnN, mJs, itSeq, mMeth, beq_self_eq_true, and_self, List.isEmpty_nil, List.isEmpty_cons, Option.map, big, Nat.reduceLeDiff, Nat.zero_le, Nat.le_refl]
theorem put_ok (t o : T) (p : List Bool) (h : t.ok p) (hl : p.length < 64) (h6 : (t.put p o).leaves ≤ 60) : fn_Building_put none [t.obj, pD p, o.obj] = .ret ((t.put p o).obj, false) none := by
  have e1 := part_at_ok t p h
  have e2 := with_ok p t o 64 h hl h6
  have e3 : fn_require_building none [o.obj] = .ret (.non, false) none := by simp only [fn_require_building, m_require_building, is_obj, noX, fnSem, en0, pre0, ioOf, mSeq, mIfS, mRet, mRetN, mAsg, mAsgO, mExpr, mNext, mDead, mTest, mAnd, mOr, mNot, mIf, mAndV, mOrV, mNotV, notD, mChain, mOp1, mOp2, mC, mVar, mCall, mCons, mNil, mTup, mLst, mStar, mCallV, mCallD, mPar, mAsgG, gT, gTs, gN, setV, notIo, nxt, Rs.bind, lift, asB, one1, two1, ixD, addD, subD, lenT, lenL, lenSc, tupD, intD, eq0, dI, dB, dS, List.length_cons, List.length_nil, List.map_cons, List.map_nil, List.append_nil, List.nil_append, List.cons_append, List.getElem?_cons_zero, List.getElem?_cons_succ, List.set_cons_zero, List.set_cons_succ, List.replicate, Option.bind_some, Option.map_some, Option.bind, Nat.zero_add, Nat.add_zero, Nat.reduceAdd, Nat.reduceSub, Nat.reduceEqDiff, if_true, if_false, reduceIte, Bool.false_eq_true, Bool.not_true, Bool.not_false, isSs, isSt, isTt, isTs, isIi, isBi, Nat.reduceLT, decide_true, decide_false, mSetF, clsAt, fldS, muOf, Sl.get, Sl.put, putD, mSetFs, fldsT, fldsS, allS, mMake, mMakeL, mCm, fnN, mJs, itSeq, mMeth, beq_self_eq_true, and_self, List.isEmpty_nil, List.isEmpty_cons, Option.map, big, Nat.reduceLeDiff, Nat.zero_le, Nat.le_refl]
  have pl := put_leaves p t o h
  have e4 := req_ok (t.put p o).leaves h6
  have e5 : (t.leaves : Int) - ((t.at p).leaves : Int) + (o.leaves : Int) = ((t.put p o).leaves : Int) := by omega
  simp only [fn_Building_put, m_Building_put, e1, e2, e3, fld_size, int2_int, e5, e4, noX, fnSem, en0, pre0, ioOf, mSeq, mIfS, mRet, mRetN, mAsg, mAsgO, mExpr, mNext, mDead, mTest, mAnd, mOr, mNot, mIf, mAndV, mOrV, mNotV, notD, mChain, mOp1, mOp2, mC, mVar, mCall, mCons, mNil, mTup, mLst, mStar, mCallV, mCallD, mPar, mAsgG, gT, gTs, gN, setV, notIo, nxt, Rs.bind, lift, asB, one1, two1, ixD, addD, subD, lenT, lenL, lenSc, tupD, intD, eq0, dI, dB, dS, List.length_cons, List.length_nil, List.map_cons, List.map_nil, List.append_nil, List.nil_append, List.cons_append, List.getElem?_cons_zero, List.getElem?_cons_succ, List.set_cons_zero, List.set_cons_succ, List.replicate, Option.bind_some, Option.map_some, Option.bind, Nat.zero_add, Nat.add_zero, Nat.reduceAdd, Nat.reduceSub, Nat.reduceEqDiff, if_true, if_false, reduceIte, Bool.false_eq_true, Bool.not_true, Bool.not_false, isSs, isSt, isTt, isTs, isIi, isBi, Nat.reduceLT, decide_true, decide_false, mSetF, clsAt, fldS, muOf, Sl.get, Sl.put, putD, mSetFs, fldsT, fldsS, allS, mMake, mMakeL, mCm, fnN, mJs, itSeq, mMeth, beq_self_eq_true, and_self, List.isEmpty_nil, List.isEmpty_cons, Option.map, big, Nat.reduceLeDiff, Nat.zero_le, Nat.le_refl]
/-! ### turned -/
def T.turn : T → T
  | .leaf b => .leaf b
  | .node true a b => .node true b.turn a.turn
  | .node false a b => .node false a.turn b.turn
theorem turn_leaves : ∀ t : T, t.turn.leaves = t.leaves
  | .leaf _ => rfl
  | .node true a b => by simp only [T.turn, T.leaves, turn_leaves a, turn_leaves b]; omega
  | .node false a b => by simp only [T.turn, T.leaves, turn_leaves a, turn_leaves b]
theorem turn_turn : ∀ t : T, t.turn.turn = t
  | .leaf _ => rfl
  | .node true a b => by simp only [T.turn, turn_turn a, turn_turn b]
  | .node false a b => by simp only [T.turn, turn_turn a, turn_turn b]
/-! ### a text leads to one building -/
def sg : Bool → List Nat
  | true => [32, 43, 32]
  | false => [32, 124, 32]
def T.tx : T → List Nat
  | .leaf true => [116, 105, 101]
  | .leaf false => [103, 97, 112]
  | .node r a b => 40 :: (a.tx ++ (sg r ++ (b.tx ++ [41])))
theorem cps_app (a b : Str) : (a ++ b).cps.toList = a.cps.toList ++ b.cps.toList := by
  show (a.cps ++ b.cps).toList = _
  simp
theorem tx_eq : ∀ t : T, t.text.cps.toList = t.tx
  | .leaf true => by decide +kernel
  | .leaf false => by decide +kernel
  | .node r a b => by
    have h1 : (Str.cps ("(" : Str)).toList = [40] := by decide +kernel
    have h2 : (Str.cps (")" : Str)).toList = [41] := by decide +kernel
    have h3 : (T.sign r).cps.toList = sg r := by cases r <;> decide +kernel
    simp only [T.text, cps_app, tx_eq a, tx_eq b, h1, h2, h3, T.tx, List.append_assoc, List.singleton_append, List.cons_append, List.nil_append]
theorem tx_inj : ∀ (a b : T) (r s : List Nat), a.tx ++ r = b.tx ++ s → a = b ∧ r = s
  | .leaf x, .leaf y, r, s, h => by cases x <;> cases y <;> simp_all [T.tx]
  | .leaf x, .node rb b1 b2, r, s, h => by cases x <;> simp [T.tx] at h
  | .node ra a1 a2, .leaf y, r, s, h => by cases y <;> simp [T.tx] at h
  | .node ra a1 a2, .node rb b1 b2, r, s, h => by
    simp only [T.tx, List.cons_append, List.append_assoc, List.cons.injEq, true_and] at h
    obtain ⟨h1, h2⟩ := tx_inj a1 b1 _ _ h
    subst h1
    cases ra <;> cases rb <;> simp only [sg, List.cons_append, List.nil_append, List.cons.injEq, true_and, Nat.reduceEqDiff, false_and, and_false] at h2
    · obtain ⟨h3, h4⟩ := tx_inj a2 b2 _ _ h2
      subst h3
      simp only [List.cons.injEq, true_and] at h4
      exact ⟨rfl, h4⟩
    · obtain ⟨h3, h4⟩ := tx_inj a2 b2 _ _ h2
      subst h3
      simp only [List.cons.injEq, true_and] at h4
      exact ⟨rfl, h4⟩
theorem text_inj {a b : T} (h : a.text = b.text) : a = b := by
  have e : a.tx ++ [] = b.tx ++ [] := by rw [← tx_eq, ← tx_eq, h]
  exact (tx_inj a b [] [] e).1
theorem text_beq (a b : T) : (a.text == b.text) = decide (a = b) := by
  by_cases e : a = b
  · subst e
    simp
  · have n : a.text ≠ b.text := fun q => e (text_inj q)
    simp [e, n]
theorem eq_ok (a b : T) : fn_Building_uequ none [a.obj, b.obj] = .ret (.bl (decide (a = b)), false) none := by
  have e := eqD_str (strOk_text a) (strOk_text b)
  rw [text_beq] at e
  simp only [fn_Building_uequ, m_Building_uequ, is_obj, fld_text, e, noX, fnSem, en0, pre0, ioOf, mSeq, mIfS, mRet, mRetN, mAsg, mAsgO, mExpr, mNext, mDead, mTest, mAnd, mOr, mNot, mIf, mAndV, mOrV, mNotV, notD, mChain, mOp1, mOp2, mC, mVar, mCall, mCons, mNil, mTup, mLst, mStar, mCallV, mCallD, mPar, mAsgG, gT, gTs, gN, setV, notIo, nxt, Rs.bind, lift, asB, one1, two1, ixD, addD, subD, lenT, lenL, lenSc, tupD, intD, eq0, dI, dB, dS, List.length_cons, List.length_nil, List.map_cons, List.map_nil, List.append_nil, List.nil_append, List.cons_append, List.getElem?_cons_zero, List.getElem?_cons_succ, List.set_cons_zero, List.set_cons_succ, List.replicate, Option.bind_some, Option.map_some, Option.bind, Nat.zero_add, Nat.add_zero, Nat.reduceAdd, Nat.reduceSub, Nat.reduceEqDiff, if_true, if_false, reduceIte, Bool.false_eq_true, Bool.not_true, Bool.not_false, isSs, isSt, isTt, isTs, isIi, isBi, Nat.reduceLT, decide_true, decide_false, mSetF, clsAt, fldS, muOf, Sl.get, Sl.put, putD, mSetFs, fldsT, fldsS, allS, mMake, mMakeL, mCm, fnN, mJs, itSeq, mMeth, beq_self_eq_true, and_self, List.isEmpty_nil, List.isEmpty_cons, Option.map, big, Nat.reduceLeDiff, Nat.zero_le, Nat.le_refl]
theorem eq_text (a : T) (x : Str) : fn_Building_uequ none [a.obj, .str x] = .ret (.bl false, false) none := by
  have i : isD 1 ans_Building (.str x) = some (dB false) := rfl
  simp only [fn_Building_uequ, m_Building_uequ, i, noX, fnSem, en0, pre0, ioOf, mSeq, mIfS, mRet, mRetN, mAsg, mAsgO, mExpr, mNext, mDead, mTest, mAnd, mOr, mNot, mIf, mAndV, mOrV, mNotV, notD, mChain, mOp1, mOp2, mC, mVar, mCall, mCons, mNil, mTup, mLst, mStar, mCallV, mCallD, mPar, mAsgG, gT, gTs, gN, setV, notIo, nxt, Rs.bind, lift, asB, one1, two1, ixD, addD, subD, lenT, lenL, lenSc, tupD, intD, eq0, dI, dB, dS, List.length_cons, List.length_nil, List.map_cons, List.map_nil, List.append_nil, List.nil_append, List.cons_append, List.getElem?_cons_zero, List.getElem?_cons_succ, List.set_cons_zero, List.set_cons_succ, List.replicate, Option.bind_some, Option.map_some, Option.bind, Nat.zero_add, Nat.add_zero, Nat.reduceAdd, Nat.reduceSub, Nat.reduceEqDiff, if_true, if_false, reduceIte, Bool.false_eq_true, Bool.not_true, Bool.not_false, isSs, isSt, isTt, isTs, isIi, isBi, Nat.reduceLT, decide_true, decide_false, mSetF, clsAt, fldS, muOf, Sl.get, Sl.put, putD, mSetFs, fldsT, fldsS, allS, mMake, mMakeL, mCm, fnN, mJs, itSeq, mMeth, beq_self_eq_true, and_self, List.isEmpty_nil, List.isEmpty_cons, Option.map, big, Nat.reduceLeDiff, Nat.zero_le, Nat.le_refl]
theorem isO (t : T) : isObj 0 t.obj = true := by rw [obj_eq]; rfl
theorem flO (t : T) : flatR 0 t.obj = true := by rw [obj_eq]; rfl
theorem opEq (a b : T) : orD eqD (eqO 0 fn_Building_uequ) a.obj b.obj = some (dB (decide (a = b))) := by
  have e : orD eqD (eqO 0 fn_Building_uequ) a.obj b.obj = eqO 0 fn_Building_uequ a.obj b.obj := by rw [obj_eq a]; rfl
  rw [e]
  unfold eqO fnN
  rw [if_pos ⟨isO a, flO b⟩, eq_ok]
  rfl
theorem opNe (a b : T) : orD neD (neO 0 fn_Building_uequ) a.obj b.obj = some (dB (!decide (a = b))) := by
  have e : orD neD (neO 0 fn_Building_uequ) a.obj b.obj = neO 0 fn_Building_uequ a.obj b.obj := by rw [obj_eq a]; rfl
  rw [e]
  unfold neO eqO fnN
  rw [if_pos ⟨isO a, flO b⟩, eq_ok]
  rfl
theorem opNeT (a : T) (x : Str) : orD neD (neO 0 fn_Building_uequ) a.obj (.str x) = some (dB true) := by
  have e : orD neD (neO 0 fn_Building_uequ) a.obj (.str x) = neO 0 fn_Building_uequ a.obj (.str x) := by rw [obj_eq a]; rfl
  rw [e]
  unfold neO eqO fnN
  rw [if_pos ⟨isO a, rfl⟩, eq_text]
  rfl
/-! ### plain buildings compared -/
def T.py : T → PyData
  | .leaf true => .str "tie"
  | .leaf false => .str "gap"
  | .node true a b => .tuple [.str "row", a.py, b.py]
  | .node false a b => .tuple [.str "side", a.py, b.py]
theorem toPy_t : ∀ t : T, toPy t.plain = some t.py
  | .leaf true => by simp only [T.plain, T.py, toPy]
  | .leaf false => by simp only [T.plain, T.py, toPy]
  | .node true a b => by simp only [T.plain, T.py, toPy, toPyL, toPy_t a, toPy_t b, Option.bind_some, Option.map_some]
  | .node false a b => by simp only [T.plain, T.py, toPy, toPyL, toPy_t a, toPy_t b, Option.bind_some, Option.map_some]
theorem so1 : strOk "tie" = true := by decide +kernel
theorem so2 : strOk "gap" = true := by decide +kernel
theorem so3 : strOk "row" = true := by decide +kernel
theorem so4 : strOk "side" = true := by decide +kernel
theorem can_t : ∀ t : T, t.py.canLay0 = true
  | .leaf true => by simp only [T.py, PyData.canLay0, so1]
  | .leaf false => by simp only [T.py, PyData.canLay0, so2]
  | .node true a b => by simp only [T.py, PyData.canLay0, PyData.canLayAll0, so3, can_t a, can_t b, Bool.and_self]
  | .node false a b => by simp only [T.py, PyData.canLay0, PyData.canLayAll0, so4, can_t a, can_t b, Bool.and_self]
theorem dep_t : ∀ t : T, t.py.depth < t.leaves
  | .leaf true => by simp [T.py, PyData.depth, T.leaves]
  | .leaf false => by simp [T.py, PyData.depth, T.leaves]
  | .node true a b => by
    have h1 := dep_t a
    have h2 := dep_t b
    have pa := a.pos
    have pb := b.pos
    simp only [T.py, PyData.depth, PyData.depthAll, T.leaves]
    omega
  | .node false a b => by
    have h1 := dep_t a
    have h2 := dep_t b
    have pa := a.pos
    have pb := b.pos
    simp only [T.py, PyData.depth, PyData.depthAll, T.leaves]
    omega
theorem pyOk_t (t : T) (h : t.leaves ≤ 60) : pyOk t.plain = some t.py := by
  unfold pyOk
  rw [toPy_t]
  simp only [Option.bind_some]
  rw [if_pos]
  unfold SeqAt.shaped
  have := dep_t t
  rw [can_t, Bool.true_and]
  exact decide_eq_true (by omega)
theorem ss1 : (("tie" : Str) == ("gap" : Str)) = false := by decide +kernel
theorem ss2 : (("gap" : Str) == ("tie" : Str)) = false := by decide +kernel
theorem ss3 : (("row" : Str) == ("side" : Str)) = false := by decide +kernel
theorem ss4 : (("side" : Str) == ("row" : Str)) = false := by decide +kernel
theorem eqv_t : ∀ a b : T, PyData.eqv a.py b.py = decide (a = b)
  | .leaf true, .leaf true => by simp [T.py, PyData.eqv]
  | .leaf true, .leaf false => by simp [T.py, PyData.eqv, ss1]
  | .leaf false, .leaf true => by simp [T.py, PyData.eqv, ss2]
  | .leaf false, .leaf false => by simp [T.py, PyData.eqv]
  | .leaf x, .node y a b => by cases x <;> cases y <;> simp [T.py, PyData.eqv]
  | .node y a b, .leaf x => by cases x <;> cases y <;> simp [T.py, PyData.eqv]
  | .node true a b, .node true c d => by simp [T.py, PyData.eqv, PyData.eqvAll, eqv_t a c, eqv_t b d]
  | .node false a b, .node false c d => by simp [T.py, PyData.eqv, PyData.eqvAll, eqv_t a c, eqv_t b d]
  | .node true a b, .node false c d => by simp [T.py, PyData.eqv, PyData.eqvAll, ss3]
  | .node false a b, .node true c d => by simp [T.py, PyData.eqv, PyData.eqvAll, ss4]
theorem eqPlain (a b : T) (ha : a.leaves ≤ 60) (hb : b.leaves ≤ 60) : eqD a.plain b.plain = some (dB (decide (a = b))) := by
  unfold eqD
  rw [pyOk_t a ha, pyOk_t b hb, ← eqv_t]
  rfl
/-! ### dice -/
def DiceK (k : Nat) (m : Mu) : Prop := ∃ a b c : Int, m = .lst [.int a, .int b, .int c] ∧ 0 ≤ a ∧ a < 10 ^ 121 ∧ 0 ≤ b ∧ b < 2 ^ 90 ∧ 0 ≤ c ∧ c ≤ k
theorem lg {n k : Nat} (h : n < 2 ^ k) (hk : 0 < k) : n.log2 < k := by
  by_cases e : n = 0
  · subst e
    exact hk
  · exact (Nat.log2_lt e).mpr h
theorem mul_ok {i j : Int} (hi : i.natAbs < 2 ^ 400) (hj : j.natAbs < 2 ^ 400) : mulD (.int i) (.int j) = some (dI (i * j)) := by
  have h1 := lg hi (by decide)
  have h2 := lg hj (by decide)
  unfold mulD int2c
  simp only
  rw [if_pos]
  unfold mulC
  exact decide_eq_true (by omega)
theorem mod_ok {i j : Int} (h : 0 < j) : modD (.int i) (.int j) = some (dI (i % j)) := by
  unfold modD int2c
  simp only
  rw [if_pos]
  exact decide_eq_true h
theorem div_ok {i j : Int} (h : 0 < j) (hj : j.natAbs < 2 ^ 400) : divD (.int i) (.int j) = some (dI (i / j)) := by
  have h2 := lg hj (by decide)
  unfold divD int2c
  simp only
  rw [if_pos]
  exact decide_eq_true ⟨h, by omega⟩
theorem n30 : ixN 3 0 = some 0 := rfl
theorem n31 : ixN 3 1 = some 1 := rfl
theorem n32 : ixN 3 2 = some 2 := rfl
theorem roll_ok (m : Mu) (k : Nat) (t : Int) (ht : 0 < t) (ht2 : t < 2 ^ 60) (hk : k ≤ 1000000) (h : DiceK k m) : ∃ r m', fn_l_roll (some m) [.int t] = .ret (.int r, false) (some m') ∧ 0 ≤ r ∧ r < t ∧ DiceK (k + 1) m' := by
  obtain ⟨a, b, c, rfl, ha, ha2, hb, hb2, hc, hc2⟩ := h
  have d1 := div_ok (i := a) ht (by omega)
  have m1 := mod_ok (i := a) ht
  by_cases pos : 0 < a
  · have g : decide ((0 : Int) < a) = true := decide_eq_true pos
    refine ⟨a % t, .lst [.int (a / t), .int b, .int c], ?_, Int.emod_nonneg _ (by omega), Int.emod_lt_of_pos _ ht, a / t, b, c, rfl, ?_, ?_, hb, hb2, hc, by omega⟩
    · simp only [fn_l_roll, m_l_roll, mItemO, mBehind, mSetItem, at0, at1, at2, n30, gtI_int, g, m1, d1, noX, fnSem, en0, pre0, ioOf, mSeq, mIfS, mRet, mRetN, mAsg, mAsgO, mExpr, mNext, mDead, mTest, mAnd, mOr, mNot, mIf, mAndV, mOrV, mNotV, notD, mChain, mOp1, mOp2, mC, mVar, mCall, mCons, mNil, mTup, mLst, mStar, mCallV, mCallD, mPar, mAsgG, gT, gTs, gN, setV, notIo, nxt, Rs.bind, lift, asB, one1, two1, ixD, addD, subD, lenT, lenL, lenSc, tupD, intD, eq0, dI, dB, dS, List.length_cons, List.length_nil, List.map_cons, List.map_nil, List.append_nil, List.nil_append, List.cons_append, List.getElem?_cons_zero, List.getElem?_cons_succ, List.set_cons_zero, List.set_cons_succ, List.replicate, Option.bind_some, Option.map_some, Option.bind, Nat.zero_add, Nat.add_zero, Nat.reduceAdd, Nat.reduceSub, Nat.reduceEqDiff, if_true, if_false, reduceIte, Bool.false_eq_true, Bool.not_true, Bool.not_false, isSs, isSt, isTt, isTs, isIi, isBi, Nat.reduceLT, decide_true, decide_false, mSetF, clsAt, fldS, muOf, Sl.get, Sl.put, putD, mSetFs, fldsT, fldsS, allS, mMake, mMakeL, mCm, fnN, mJs, itSeq, mMeth, beq_self_eq_true, and_self, List.isEmpty_nil, List.isEmpty_cons, Option.map, big, Nat.reduceLeDiff, Nat.zero_le, Nat.le_refl]
    · exact Int.ediv_nonneg ha (by omega)
    · exact Int.lt_of_le_of_lt (Int.ediv_le_self _ ha) ha2
  · have g : decide ((0 : Int) < a) = false := decide_eq_false pos
    have e1 : mulD (.int 49979687) (.int (c + 1)) = some (dI (49979687 * (c + 1))) := mul_ok (by decide) (by omega)
    have e2 : modD (.int (b + 49979687 * (c + 1))) (.int 2305843009213693669) = some (dI ((b + 49979687 * (c + 1)) % 2305843009213693669)) := mod_ok (by decide)
    have o0 : 0 ≤ (b + 49979687 * (c + 1)) % 2305843009213693669 := Int.emod_nonneg _ (by decide)
    have o1 : (b + 49979687 * (c + 1)) % 2305843009213693669 < 2305843009213693669 := Int.emod_lt_of_pos _ (by decide)
    generalize (b + 49979687 * (c + 1)) % 2305843009213693669 = one at e2 o0 o1
    have e3 : mulD (.int one) (.int one) = some (dI (one * one)) := mul_ok (by omega) (by omega)
    have e4 : mulD (.int 89) (.int (c + 1)) = some (dI (89 * (c + 1))) := mul_ok (by decide) (by omega)
    have e5 : modD (.int (one * one + 89 * (c + 1))) (.int 2305843009213693907) = some (dI ((one * one + 89 * (c + 1)) % 2305843009213693907)) := mod_ok (by decide)
    have p0 : 0 ≤ (one * one + 89 * (c + 1)) % 2305843009213693907 := Int.emod_nonneg _ (by decide)
    have p1 : (one * one + 89 * (c + 1)) % 2305843009213693907 < 2305843009213693907 := Int.emod_lt_of_pos _ (by decide)
    generalize (one * one + 89 * (c + 1)) % 2305843009213693907 = pp at e5 p0 p1
    have e6 : mulD (.int pp) (.int 7368791) = some (dI (pp * 7368791)) := mul_ok (by omega) (by decide)
    have e7 : divD (.int (pp * 7368791 + one)) (.int 65536) = some (dI ((pp * 7368791 + one) / 65536)) := div_ok (by decide) (by decide)
    have e8 : modD (.int ((pp * 7368791 + one) / 65536)) (.int t) = some (dI ((pp * 7368791 + one) / 65536 % t)) := mod_ok ht
    refine ⟨(pp * 7368791 + one) / 65536 % t, .lst [.int a, .int b, .int (c + 1)], ?_, Int.emod_nonneg _ (by omega), Int.emod_lt_of_pos _ ht, a, b, c + 1, rfl, ha, ha2, hb, hb2, by omega, by omega⟩
    simp only [fn_l_roll, m_l_roll, mItemO, mBehind, mSetItem, at0, at1, at2, n32, gtI_int, g, e1, e2, e3, e4, e5, e6, e7, e8, noX, fnSem, en0, pre0, ioOf, mSeq, mIfS, mRet, mRetN, mAsg, mAsgO, mExpr, mNext, mDead, mTest, mAnd, mOr, mNot, mIf, mAndV, mOrV, mNotV, notD, mChain, mOp1, mOp2, mC, mVar, mCall, mCons, mNil, mTup, mLst, mStar, mCallV, mCallD, mPar, mAsgG, gT, gTs, gN, setV, notIo, nxt, Rs.bind, lift, asB, one1, two1, ixD, addD, subD, lenT, lenL, lenSc, tupD, intD, eq0, dI, dB, dS, List.length_cons, List.length_nil, List.map_cons, List.map_nil, List.append_nil, List.nil_append, List.cons_append, List.getElem?_cons_zero, List.getElem?_cons_succ, List.set_cons_zero, List.set_cons_succ, List.replicate, Option.bind_some, Option.map_some, Option.bind, Nat.zero_add, Nat.add_zero, Nat.reduceAdd, Nat.reduceSub, Nat.reduceEqDiff, if_true, if_false, reduceIte, Bool.false_eq_true, Bool.not_true, Bool.not_false, isSs, isSt, isTt, isTs, isIi, isBi, Nat.reduceLT, decide_true, decide_false, mSetF, clsAt, fldS, muOf, Sl.get, Sl.put, putD, mSetFs, fldsT, fldsS, allS, mMake, mMakeL, mCm, fnN, mJs, itSeq, mMeth, beq_self_eq_true, and_self, List.isEmpty_nil, List.isEmpty_cons, Option.map, big, Nat.reduceLeDiff, Nat.zero_le, Nat.le_refl]
theorem eqI (i j : Int) : eqD (.int i) (.int j) = some (dB (i == j)) := rfl
theorem plain_leaf (b : Bool) : (T.leaf b).plain = .str (if b then "tie" else "gap") := by cases b <;> rfl
theorem building_ok : ∀ (n L k : Nat) (m : Mu), 1 ≤ L → L ≤ n → L ≤ 60 → k + 3 * L ≤ 1000000 → DiceK k m → ∃ (t : T) (m' : Mu), fn_l_building n (some m) [.int L] = .ret (t.plain, false) (some m') ∧ t.leaves = L ∧ DiceK (k + (3 * L - 2)) m'
  | 0, L, k, m, h1, h2, _, _, _ => by omega
  | n + 1, L, k, m, h1, h2, h6, hk, hd => by
    by_cases one : L = 1
    · subst one
      obtain ⟨r, m1, e, r0, r1, d⟩ := roll_ok m k 4 (by decide) (by decide) (by omega) hd
      have d' : DiceK (k + (3 * 1 - 2)) m1 := by
        obtain ⟨a, b, c, rfl, q1, q2, q3, q4, q5, q6⟩ := d
        exact ⟨a, b, c, rfl, q1, q2, q3, q4, q5, by omega⟩
      have e1 : ((1 : Nat) : Int) = 1 := rfl
      have z : eqD (.int 1) (.int 1) = some (dB true) := rfl
      by_cases r0 : r = 0
      · subst r0
        refine ⟨.leaf false, m1, ?_, rfl, d'⟩
        simp only [e1, fn_l_building, m_l_building, T.plain, e, z, eqI0, noX, fnSem, en0, pre0, ioOf, mSeq, mIfS, mRet, mRetN, mAsg, mAsgO, mExpr, mNext, mDead, mTest, mAnd, mOr, mNot, mIf, mAndV, mOrV, mNotV, notD, mChain, mOp1, mOp2, mC, mVar, mCall, mCons, mNil, mTup, mLst, mStar, mCallV, mCallD, mPar, mAsgG, gT, gTs, gN, setV, notIo, nxt, Rs.bind, lift, asB, one1, two1, ixD, addD, subD, lenT, lenL, lenSc, tupD, intD, eq0, dI, dB, dS, List.length_cons, List.length_nil, List.map_cons, List.map_nil, List.append_nil, List.nil_append, List.cons_append, List.getElem?_cons_zero, List.getElem?_cons_succ, List.set_cons_zero, List.set_cons_succ, List.replicate, Option.bind_some, Option.map_some, Option.bind, Nat.zero_add, Nat.add_zero, Nat.reduceAdd, Nat.reduceSub, Nat.reduceEqDiff, if_true, if_false, reduceIte, Bool.false_eq_true, Bool.not_true, Bool.not_false, isSs, isSt, isTt, isTs, isIi, isBi, Nat.reduceLT, decide_true, decide_false, mSetF, clsAt, fldS, muOf, Sl.get, Sl.put, putD, mSetFs, fldsT, fldsS, allS, mMake, mMakeL, mCm, fnN, mJs, itSeq, mMeth, beq_self_eq_true, and_self, List.isEmpty_nil, List.isEmpty_cons, Option.map, big, Nat.reduceLeDiff, Nat.zero_le, Nat.le_refl]
      · have zz : (r == 0) = false := by simpa using r0
        refine ⟨.leaf true, m1, ?_, rfl, d'⟩
        simp only [e1, fn_l_building, m_l_building, T.plain, e, z, eqI, zz, noX, fnSem, en0, pre0, ioOf, mSeq, mIfS, mRet, mRetN, mAsg, mAsgO, mExpr, mNext, mDead, mTest, mAnd, mOr, mNot, mIf, mAndV, mOrV, mNotV, notD, mChain, mOp1, mOp2, mC, mVar, mCall, mCons, mNil, mTup, mLst, mStar, mCallV, mCallD, mPar, mAsgG, gT, gTs, gN, setV, notIo, nxt, Rs.bind, lift, asB, one1, two1, ixD, addD, subD, lenT, lenL, lenSc, tupD, intD, eq0, dI, dB, dS, List.length_cons, List.length_nil, List.map_cons, List.map_nil, List.append_nil, List.nil_append, List.cons_append, List.getElem?_cons_zero, List.getElem?_cons_succ, List.set_cons_zero, List.set_cons_succ, List.replicate, Option.bind_some, Option.map_some, Option.bind, Nat.zero_add, Nat.add_zero, Nat.reduceAdd, Nat.reduceSub, Nat.reduceEqDiff, if_true, if_false, reduceIte, Bool.false_eq_true, Bool.not_true, Bool.not_false, isSs, isSt, isTt, isTs, isIi, isBi, Nat.reduceLT, decide_true, decide_false, mSetF, clsAt, fldS, muOf, Sl.get, Sl.put, putD, mSetFs, fldsT, fldsS, allS, mMake, mMakeL, mCm, fnN, mJs, itSeq, mMeth, beq_self_eq_true, and_self, List.isEmpty_nil, List.isEmpty_cons, Option.map, big, Nat.reduceLeDiff, Nat.zero_le, Nat.le_refl]
    · have lp : (0 : Int) < (L : Int) - 1 := by omega
      obtain ⟨r, m1, e, r0, r1, d⟩ := roll_ok m k ((L : Int) - 1) lp (by omega) (by omega) hd
      obtain ⟨r', m2, e', r0', r1', d2⟩ := roll_ok m1 (k + 1) 5 (by decide) (by decide) (by omega) d
      obtain ⟨c, hc⟩ := Int.eq_ofNat_of_zero_le r0
      subst hc
      obtain ⟨ta, m3, f1, la, d3⟩ := building_ok n (1 + c) (k + 1 + 1) m2 (by omega) (by omega) (by omega) (by omega) d2
      obtain ⟨tb, m4, f2, lb, d4⟩ := building_ok n (L - (1 + c)) (k + 1 + 1 + (3 * (1 + c) - 2)) m3 (by omega) (by omega) (by omega) (by omega) d3
      have c1 : ((1 + c : Nat) : Int) = 1 + (c : Int) := by omega
      have c2 : ((L - (1 + c) : Nat) : Int) = (L : Int) - (1 + (c : Int)) := by omega
      rw [c1] at f1
      rw [c2] at f2
      have d' : DiceK (k + (3 * L - 2)) m4 := by
        obtain ⟨a, b, c, rfl, q1, q2, q3, q4, q5, q6⟩ := d4
        exact ⟨a, b, c, rfl, q1, q2, q3, q4, q5, by omega⟩
      have z : ((L : Int) == 1) = false := by
        rw [beq_eq_false_iff_ne]
        omega
      by_cases s : r' < 2
      · have g : decide (r' < 2) = true := decide_eq_true s
        refine ⟨.node false ta tb, m4, ?_, by simp only [T.leaves]; omega, d'⟩
        simp only [fn_l_building, m_l_building, T.plain, eqI, z, e, e', f1, f2, ltI_int, g, int2_int, noX, fnSem, en0, pre0, ioOf, mSeq, mIfS, mRet, mRetN, mAsg, mAsgO, mExpr, mNext, mDead, mTest, mAnd, mOr, mNot, mIf, mAndV, mOrV, mNotV, notD, mChain, mOp1, mOp2, mC, mVar, mCall, mCons, mNil, mTup, mLst, mStar, mCallV, mCallD, mPar, mAsgG, gT, gTs, gN, setV, notIo, nxt, Rs.bind, lift, asB, one1, two1, ixD, addD, subD, lenT, lenL, lenSc, tupD, intD, eq0, dI, dB, dS, List.length_cons, List.length_nil, List.map_cons, List.map_nil, List.append_nil, List.nil_append, List.cons_append, List.getElem?_cons_zero, List.getElem?_cons_succ, List.set_cons_zero, List.set_cons_succ, List.replicate, Option.bind_some, Option.map_some, Option.bind, Nat.zero_add, Nat.add_zero, Nat.reduceAdd, Nat.reduceSub, Nat.reduceEqDiff, if_true, if_false, reduceIte, Bool.false_eq_true, Bool.not_true, Bool.not_false, isSs, isSt, isTt, isTs, isIi, isBi, Nat.reduceLT, decide_true, decide_false, mSetF, clsAt, fldS, muOf, Sl.get, Sl.put, putD, mSetFs, fldsT, fldsS, allS, mMake, mMakeL, mCm, fnN, mJs, itSeq, mMeth, beq_self_eq_true, and_self, List.isEmpty_nil, List.isEmpty_cons, Option.map, big, Nat.reduceLeDiff, Nat.zero_le, Nat.le_refl]
      · have g : decide (r' < 2) = false := decide_eq_false s
        refine ⟨.node true ta tb, m4, ?_, by simp only [T.leaves]; omega, d'⟩
        simp only [fn_l_building, m_l_building, T.plain, eqI, z, e, e', f1, f2, ltI_int, g, int2_int, noX, fnSem, en0, pre0, ioOf, mSeq, mIfS, mRet, mRetN, mAsg, mAsgO, mExpr, mNext, mDead, mTest, mAnd, mOr, mNot, mIf, mAndV, mOrV, mNotV, notD, mChain, mOp1, mOp2, mC, mVar, mCall, mCons, mNil, mTup, mLst, mStar, mCallV, mCallD, mPar, mAsgG, gT, gTs, gN, setV, notIo, nxt, Rs.bind, lift, asB, one1, two1, ixD, addD, subD, lenT, lenL, lenSc, tupD, intD, eq0, dI, dB, dS, List.length_cons, List.length_nil, List.map_cons, List.map_nil, List.append_nil, List.nil_append, List.cons_append, List.getElem?_cons_zero, List.getElem?_cons_succ, List.set_cons_zero, List.set_cons_succ, List.replicate, Option.bind_some, Option.map_some, Option.bind, Nat.zero_add, Nat.add_zero, Nat.reduceAdd, Nat.reduceSub, Nat.reduceEqDiff, if_true, if_false, reduceIte, Bool.false_eq_true, Bool.not_true, Bool.not_false, isSs, isSt, isTt, isTs, isIi, isBi, Nat.reduceLT, decide_true, decide_false, mSetF, clsAt, fldS, muOf, Sl.get, Sl.put, putD, mSetFs, fldsT, fldsS, allS, mMake, mMakeL, mCm, fnN, mJs, itSeq, mMeth, beq_self_eq_true, and_self, List.isEmpty_nil, List.isEmpty_cons, Option.map, big, Nat.reduceLeDiff, Nat.zero_le, Nat.le_refl]
theorem pick_ok (m : Mu) (k : Nat) (xs : List D) (h0 : xs ≠ []) (hl : xs.length ≤ 1000) (hk : k ≤ 1000000) (hd : DiceK k m) : ∃ d m', d ∈ xs ∧ fn_l_pick (some m) [.lst xs] = .ret (d, false) (some m') ∧ DiceK (k + 1) m' := by
  have lp : 0 < xs.length := List.length_pos_iff.mpr h0
  obtain ⟨r, m1, e, r0, r1, d⟩ := roll_ok m k (xs.length : Nat) (by omega) (by omega) hk hd
  obtain ⟨c, hc⟩ := Int.eq_ofNat_of_zero_le r0
  subst hc
  have lt : c < xs.length := by omega
  have ea : atI xs (c : Int) = some xs[c] := by
    unfold atI ixN
    rw [if_pos (by omega), if_pos (by omega)]
    simp [lt]
  refine ⟨xs[c], m1, List.getElem_mem lt, ?_, d⟩
  simp only [fn_l_pick, m_l_pick, e, ea, noX, fnSem, en0, pre0, ioOf, mSeq, mIfS, mRet, mRetN, mAsg, mAsgO, mExpr, mNext, mDead, mTest, mAnd, mOr, mNot, mIf, mAndV, mOrV, mNotV, notD, mChain, mOp1, mOp2, mC, mVar, mCall, mCons, mNil, mTup, mLst, mStar, mCallV, mCallD, mPar, mAsgG, gT, gTs, gN, setV, notIo, nxt, Rs.bind, lift, asB, one1, two1, ixD, addD, subD, lenT, lenL, lenSc, tupD, intD, eq0, dI, dB, dS, List.length_cons, List.length_nil, List.map_cons, List.map_nil, List.append_nil, List.nil_append, List.cons_append, List.getElem?_cons_zero, List.getElem?_cons_succ, List.set_cons_zero, List.set_cons_succ, List.replicate, Option.bind_some, Option.map_some, Option.bind, Nat.zero_add, Nat.add_zero, Nat.reduceAdd, Nat.reduceSub, Nat.reduceEqDiff, if_true, if_false, reduceIte, Bool.false_eq_true, Bool.not_true, Bool.not_false, isSs, isSt, isTt, isTs, isIi, isBi, Nat.reduceLT, decide_true, decide_false, mSetF, clsAt, fldS, muOf, Sl.get, Sl.put, putD, mSetFs, fldsT, fldsS, allS, mMake, mMakeL, mCm, fnN, mJs, itSeq, mMeth, beq_self_eq_true, and_self, List.isEmpty_nil, List.isEmpty_cons, Option.map, big, Nat.reduceLeDiff, Nat.zero_le, Nat.le_refl]
theorem pyOk_p (p : List Bool) : pyOk (pD p) = some (pyP p) := by
  unfold pyOk
  rw [toPy_p]
  simp only [Option.bind_some]
  rw [if_pos]
  unfold SeqAt.shaped
  simp only [pyP, PyData.canLay0, canLay_p, PyData.depth, depth_p, Bool.true_and]
  rfl
theorem bI_eq (a b : Bool) : (bI a == bI b) = decide (a = b) := by cases a <;> cases b <;> rfl
theorem eqvP : ∀ a b : List Bool, PyData.eqvAll (a.map fun b => PyData.int (bI b)) (b.map fun b => PyData.int (bI b)) = decide (a = b)
  | [], [] => by simp [PyData.eqvAll]
  | [], _ :: _ => by simp [PyData.eqvAll]
  | _ :: _, [] => by simp [PyData.eqvAll]
  | x :: a, y :: b => by simp [PyData.eqvAll, PyData.eqv, bI_eq, eqvP a b]
theorem neP (a b : List Bool) : neD (pD a) (pD b) = some (dB (!decide (a = b))) := by
  unfold neD
  rw [pyOk_p, pyOk_p]
  simp only [Option.bind_some, Option.map_some, pyP, PyData.eqv, eqvP]
theorem slP (q : List Bool) (n : Nat) : slD (pD q) none (some (n : Int)) = some (pD (q.take n), false) := by
  show some ((D.tup (cutD (q.map bD) none (some (n : Int))), false) : Vl) = _
  unfold cutD
  rw [HT.sIx_none, HT.sIx_nat, List.drop_zero, Nat.sub_zero]
  have e : (q.map bD).take (min n (q.map bD).length) = (q.take n).map bD := by
    rw [List.map_take]
    exact (List.take_eq_take_min).symm
  rw [e]
  rfl
theorem lenP (q : List Bool) : lenD (pD q) = some (dI (q.length : Nat)) := by
  show some (dI ((q.map bD).length : Nat)) = _
  rw [List.length_map]
theorem apart_at : ∀ (p q : List Bool) (t o : T), t.ok p → (t.put p o).ok q → q.take p.length ≠ p → p.take q.length ≠ q → t.ok q ∧ (t.put p o).at q = t.at q
  | [], q, t, o, _, _, h, _ => (h rfl).elim
  | _ :: _, [], t, o, _, _, _, h => (h rfl).elim
  | x :: p, y :: q, .leaf _, o, h, _, _, _ => h.elim
  | x :: p, y :: q, .node r a b, o, h, hq, h1, h2 => by
    cases x <;> cases y
    · have := apart_at p q a o h hq (fun z => h1 (by simp [z])) (fun z => h2 (by simp [z]))
      exact this
    · exact ⟨hq, rfl⟩
    · exact ⟨hq, rfl⟩
    · have := apart_at p q b o h hq (fun z => h1 (by simp [z])) (fun z => h2 (by simp [z]))
      exact this
theorem put_at : ∀ (p : List Bool) (t o : T), t.ok p → (t.put p o).ok p ∧ (t.put p o).at p = o
  | [], t, o, _ => by rw [put_nil]; exact ⟨ok_nil o, by cases o <;> rfl⟩
  | _ :: _, .leaf _, o, h => h.elim
  | false :: p, .node r a b, o, h => put_at p a o h
  | true :: p, .node r a b, o, h => put_at p b o h
theorem put_back : ∀ (p : List Bool) (t o : T), t.ok p → (t.put p o).put p (t.at p) = t
  | [], t, o, _ => by rw [put_nil]; cases t <;> rfl
  | _ :: _, .leaf _, o, h => h.elim
  | false :: p, .node r a b, o, h => by
    have := put_back p a o h
    simp only [T.put, T.at, T.kid, this]
  | true :: p, .node r a b, o, h => by
    have := put_back p b o h
    simp only [T.put, T.at, T.kid, this]
def nIo (s : Sl) : Bool := notIo (some s)
theorem nn_false : neD (.bl true) (.bl true) = some (dB false) := rfl
theorem nn_false2 : neD (.bl false) (.bl false) = some (dB false) := rfl
theorem neB (b : Bool) : neD (.bl b) (.bl b) = some (dB false) := by cases b <;> rfl
theorem eqB_ (b : Bool) : eqD (.bl b) (.bl b) = some (dB true) := by cases b <;> rfl
theorem tp_nil : (D.tup [] : D) = pD [] := rfl
theorem pow_ok {i j : Int} (h : 0 ≤ j) (h1 : j ≤ 1000000) (h2 : i.natAbs < 2 ^ 64) : powD (.int i) (.int j) = some (dI (i ^ j.toNat)) := by
  unfold powD int2c
  simp only
  rw [if_pos]
  exact decide_eq_true ⟨h, h1, h2⟩
theorem p16 : powD (.int 10) (.int 16) = some (dI (10 ^ 16)) := pow_ok (by decide) (by decide) (by decide)
theorem p60 : powD (.int 10) (.int 60) = some (dI (10 ^ 60)) := pow_ok (by decide) (by decide) (by decide)
theorem pm120 : mulD (.int (10 ^ 60)) (.int (10 ^ 60)) = some (dI (10 ^ 60 * 10 ^ 60)) := mul_ok (by decide) (by decide)
theorem abs_eq (i : Int) : absD (.int i) = some (dI (if i < 0 then -i else i)) := rfl
theorem maxD_int (i j : Int) : maxD (.int i) (.int j) = some (dI (if j > i then j else i)) := rfl
theorem minD_int (i j : Int) : minD (.int i) (.int j) = some (dI (if j < i then j else i)) := rfl
theorem intB_ (b : Bool) : intD (.bl b) = some (dI (if b then 1 else 0)) := rfl
theorem dice_core (ns : List D) (s : Nat) (hs : s < 63) (x : Int) (hx : (mIf (mTest (mOp2 ltI (mVar 1) (mCall (one1 lenD) (mCons (mVar 0) mNil)))) (mCall (one1 intD) (mCons (mOp2 ixD (mVar 0) (mVar 1)) mNil)) (mOp2 addD (mOp2 mulD (mC (.int 61)) (mVar 1)) (mC (.int 17)))) [.val (.scr ns), .val (.int s), .non, .non] = .ok (.int x, false) [.val (.scr ns), .val (.int s), .non, .non]) :
    ∃ m, fn_l_dice none [.scr ns, .int s] = .ret (.lst m, true) none ∧ DiceK 0 (.lst m) := by
  have a0 : 0 ≤ (if x < 0 then -x else x) := by split <;> omega
  generalize ea : (if x < 0 then -x else x) = ax at a0
  have e1 := abs_eq x
  rw [ea] at e1
  generalize em : (if ax - 10 ^ 16 > 0 then ax - 10 ^ 16 else 0) = mx
  have e2 := maxD_int 0 (ax - 10 ^ 16)
  rw [em] at e2
  have e3 : modD (.int mx) (.int (10 ^ 60 * 10 ^ 60)) = some (dI (mx % (10 ^ 60 * 10 ^ 60))) := mod_ok (by decide)
  have c0 : 0 ≤ mx % (10 ^ 60 * 10 ^ 60) := Int.emod_nonneg _ (by decide)
  have c1 : mx % (10 ^ 60 * 10 ^ 60) < 10 ^ 60 * 10 ^ 60 := Int.emod_lt_of_pos _ (by decide)
  generalize mx % (10 ^ 60 * 10 ^ 60) = cx at e3 c0 c1
  have e4 : modD (.int ax) (.int 1152921504606846869) = some (dI (ax % 1152921504606846869)) := mod_ok (by decide)
  have d0 : 0 ≤ ax % 1152921504606846869 := Int.emod_nonneg _ (by decide)
  have d1 : ax % 1152921504606846869 < 1152921504606846869 := Int.emod_lt_of_pos _ (by decide)
  generalize ax % 1152921504606846869 = dx at e4 d0 d1
  have e5 : mulD (.int dx) (.int 43) = some (dI (dx * 43)) := mul_ok (by omega) (by decide)
  have e6 : mulD (.int 811) (.int s) = some (dI (811 * (s : Int))) := mul_ok (by decide) (by omega)
  have e7 := intB_ (decide (x < 0))
  have e8 : mulD (.int 29) (.int (if decide (x < 0) = true then 1 else 0)) = some (dI (29 * (if decide (x < 0) = true then 1 else 0))) := mul_ok (by decide) (by split <;> decide)
  generalize ez : (29 * (if decide (x < 0) = true then 1 else 0) : Int) = zx at e8
  have z0 : 0 ≤ zx ∧ zx ≤ 29 := by
    rw [← ez]
    split <;> omega
  refine ⟨[.int cx, .int (dx * 43 + 811 * (s : Int) + zx + 5), .int 0], ?_, cx, dx * 43 + 811 * (s : Int) + zx + 5, 0, rfl, c0, ?_, by omega, by omega, by decide, by decide⟩
  · have st : (mAsg 2 (mIf (mTest (mOp2 ltI (mVar 1) (mCall (one1 lenD) (mCons (mVar 0) mNil)))) (mCall (one1 intD) (mCons (mOp2 ixD (mVar 0) (mVar 1)) mNil)) (mOp2 addD (mOp2 mulD (mC (.int 61)) (mVar 1)) (mC (.int 17))))) [.val (.scr ns), .val (.int s), .non, .non] = .ok .nx [.val (.scr ns), .val (.int s), .val (.int x), .non] := by
      unfold mAsg
      rw [hx]
      rfl
    have body : m_l_dice [.val (.scr ns), .val (.int s), .non, .non] = .ok (.rt (.lst [.int cx, .int (dx * 43 + 811 * (s : Int) + zx + 5), .int 0], true)) [.val (.scr ns), .val (.int s), .val (.int x), .val (.int cx)] := by
      unfold m_l_dice mSeq
      rw [st]
      simp only [e1, e2, e3, e4, e5, e6, e7, e8, p16, p60, pm120, ltI_int, int2_int, noX, fnSem, en0, pre0, ioOf, mSeq, mIfS, mRet, mRetN, mAsg, mAsgO, mExpr, mNext, mDead, mTest, mAnd, mOr, mNot, mIf, mAndV, mOrV, mNotV, notD, mChain, mOp1, mOp2, mC, mVar, mCall, mCons, mNil, mTup, mLst, mStar, mCallV, mCallD, mPar, mAsgG, gT, gTs, gN, setV, notIo, nxt, Rs.bind, lift, asB, one1, two1, ixD, addD, subD, lenT, lenL, lenSc, tupD, intD, eq0, dI, dB, dS, List.length_cons, List.length_nil, List.map_cons, List.map_nil, List.append_nil, List.nil_append, List.cons_append, List.getElem?_cons_zero, List.getElem?_cons_succ, List.set_cons_zero, List.set_cons_succ, List.replicate, Option.bind_some, Option.map_some, Option.bind, Nat.zero_add, Nat.add_zero, Nat.reduceAdd, Nat.reduceSub, Nat.reduceEqDiff, if_true, if_false, reduceIte, Bool.false_eq_true, Bool.not_true, Bool.not_false, isSs, isSt, isTt, isTs, isIi, isBi, Nat.reduceLT, decide_true, decide_false, mSetF, clsAt, fldS, muOf, Sl.get, Sl.put, putD, mSetFs, fldsT, fldsS, allS, mMake, mMakeL, mCm, fnN, mJs, itSeq, mMeth, beq_self_eq_true, and_self, List.isEmpty_nil, List.isEmpty_cons, Option.map, big, Nat.reduceLeDiff, Nat.zero_le, Nat.le_refl]
    simp only [fn_l_dice, body, noX, fnSem, en0, pre0, ioOf, mSeq, mIfS, mRet, mRetN, mAsg, mAsgO, mExpr, mNext, mDead, mTest, mAnd, mOr, mNot, mIf, mAndV, mOrV, mNotV, notD, mChain, mOp1, mOp2, mC, mVar, mCall, mCons, mNil, mTup, mLst, mStar, mCallV, mCallD, mPar, mAsgG, gT, gTs, gN, setV, notIo, nxt, Rs.bind, lift, asB, one1, two1, ixD, addD, subD, lenT, lenL, lenSc, tupD, intD, eq0, dI, dB, dS, List.length_cons, List.length_nil, List.map_cons, List.map_nil, List.append_nil, List.nil_append, List.cons_append, List.getElem?_cons_zero, List.getElem?_cons_succ, List.set_cons_zero, List.set_cons_succ, List.replicate, Option.bind_some, Option.map_some, Option.bind, Nat.zero_add, Nat.add_zero, Nat.reduceAdd, Nat.reduceSub, Nat.reduceEqDiff, if_true, if_false, reduceIte, Bool.false_eq_true, Bool.not_true, Bool.not_false, isSs, isSt, isTt, isTs, isIi, isBi, Nat.reduceLT, decide_true, decide_false, mSetF, clsAt, fldS, muOf, Sl.get, Sl.put, putD, mSetFs, fldsT, fldsS, allS, mMake, mMakeL, mCm, fnN, mJs, itSeq, mMeth, beq_self_eq_true, and_self, List.isEmpty_nil, List.isEmpty_cons, Option.map, big, Nat.reduceLeDiff, Nat.zero_le, Nat.le_refl]
  · have : (10 ^ 60 * 10 ^ 60 : Int) ≤ 10 ^ 121 := by decide
    omega
theorem dice_ok (ns : List Int) (s : Nat) (hs : s < 63) : ∃ m, fn_l_dice none [.scr (ns.map D.int), .int s] = .ret (.lst m, true) none ∧ DiceK 0 (.lst m) := by
  by_cases h : s < ns.length
  · refine dice_core _ s hs ns[s] ?_
    have d : decide ((s : Int) < ((ns.map D.int).length : Nat)) = true := decide_eq_true (by rw [List.length_map]; omega)
    have ea : atI (ns.map D.int) (s : Int) = some (.int ns[s]) := by
      unfold atI ixN
      rw [if_pos (by omega), if_pos (by rw [List.length_map]; omega)]
      simp [h]
    simp only [ltI_int, d, ea, noX, fnSem, en0, pre0, ioOf, mSeq, mIfS, mRet, mRetN, mAsg, mAsgO, mExpr, mNext, mDead, mTest, mAnd, mOr, mNot, mIf, mAndV, mOrV, mNotV, notD, mChain, mOp1, mOp2, mC, mVar, mCall, mCons, mNil, mTup, mLst, mStar, mCallV, mCallD, mPar, mAsgG, gT, gTs, gN, setV, notIo, nxt, Rs.bind, lift, asB, one1, two1, ixD, addD, subD, lenT, lenL, lenSc, tupD, intD, eq0, dI, dB, dS, List.length_cons, List.length_nil, List.map_cons, List.map_nil, List.append_nil, List.nil_append, List.cons_append, List.getElem?_cons_zero, List.getElem?_cons_succ, List.set_cons_zero, List.set_cons_succ, List.replicate, Option.bind_some, Option.map_some, Option.bind, Nat.zero_add, Nat.add_zero, Nat.reduceAdd, Nat.reduceSub, Nat.reduceEqDiff, if_true, if_false, reduceIte, Bool.false_eq_true, Bool.not_true, Bool.not_false, isSs, isSt, isTt, isTs, isIi, isBi, Nat.reduceLT, decide_true, decide_false, mSetF, clsAt, fldS, muOf, Sl.get, Sl.put, putD, mSetFs, fldsT, fldsS, allS, mMake, mMakeL, mCm, fnN, mJs, itSeq, mMeth, beq_self_eq_true, and_self, List.isEmpty_nil, List.isEmpty_cons, Option.map, big, Nat.reduceLeDiff, Nat.zero_le, Nat.le_refl]
  · refine dice_core _ s hs (61 * (s : Int) + 17) ?_
    have d : decide ((s : Int) < ((ns.map D.int).length : Nat)) = false := decide_eq_false (by rw [List.length_map]; omega)
    have e : mulD (.int 61) (.int s) = some (dI (61 * (s : Int))) := mul_ok (by decide) (by omega)
    simp only [ltI_int, d, e, noX, fnSem, en0, pre0, ioOf, mSeq, mIfS, mRet, mRetN, mAsg, mAsgO, mExpr, mNext, mDead, mTest, mAnd, mOr, mNot, mIf, mAndV, mOrV, mNotV, notD, mChain, mOp1, mOp2, mC, mVar, mCall, mCons, mNil, mTup, mLst, mStar, mCallV, mCallD, mPar, mAsgG, gT, gTs, gN, setV, notIo, nxt, Rs.bind, lift, asB, one1, two1, ixD, addD, subD, lenT, lenL, lenSc, tupD, intD, eq0, dI, dB, dS, List.length_cons, List.length_nil, List.map_cons, List.map_nil, List.append_nil, List.nil_append, List.cons_append, List.getElem?_cons_zero, List.getElem?_cons_succ, List.set_cons_zero, List.set_cons_succ, List.replicate, Option.bind_some, Option.map_some, Option.bind, Nat.zero_add, Nat.add_zero, Nat.reduceAdd, Nat.reduceSub, Nat.reduceEqDiff, if_true, if_false, reduceIte, Bool.false_eq_true, Bool.not_true, Bool.not_false, isSs, isSt, isTt, isTs, isIi, isBi, Nat.reduceLT, decide_true, decide_false, mSetF, clsAt, fldS, muOf, Sl.get, Sl.put, putD, mSetFs, fldsT, fldsS, allS, mMake, mMakeL, mCm, fnN, mJs, itSeq, mMeth, beq_self_eq_true, and_self, List.isEmpty_nil, List.isEmpty_cons, Option.map, big, Nat.reduceLeDiff, Nat.zero_le, Nat.le_refl]
end PM.G

namespace PM.G
open PySem PySem.Spec L2 PM
open PySem.PyData (strOk)
theorem nio_v (d : D) : notIo (some (.val d)) = true := rfl
theorem subI (i j : Int) : subD (.int i) (.int j) = some (dI (i - j)) := rfl
theorem nio_n : notIo (some .non) = true := rfl
theorem nio_o (m : Mu) : notIo (some (.own m)) = true := rfl
/-! ### steps of a surrounding -/
def wrd : Bool → Str
  | true => "row"
  | false => "side"
theorem wd_node (r : Bool) (a b : T) : (T.node r a b).word = wrd r := by cases r <;> rfl
abbrev Stp := Bool × Bool × T
def stP (s : Stp) : D := .tup [.str (wrd s.1), bD s.2.1, s.2.2.plain]
def stO (s : Stp) : D := .tup [.str (wrd s.1), bD s.2.1, s.2.2.obj]
def app : Stp → T → T
  | (r, false, o), t => .node r t o
  | (r, true, o), t => .node r o t
def putS : List Stp → T → T
  | [], t => t
  | s :: ss, t => putS ss (app s t)
theorem putS_app : ∀ (ss ss' : List Stp) (t : T), putS (ss ++ ss') t = putS ss' (putS ss t)
  | [], _, _ => rfl
  | s :: ss, ss', t => putS_app ss ss' (app s t)
theorem app_leaves : ∀ (s : Stp) (t : T), (app s t).leaves = t.leaves + s.2.2.leaves
  | (r, false, o), t => rfl
  | (r, true, o), t => by show o.leaves + t.leaves = t.leaves + o.leaves; omega
def lvS : List Stp → Nat
  | [] => 0
  | s :: ss => s.2.2.leaves + lvS ss
theorem putS_leaves : ∀ (ss : List Stp) (t : T), (putS ss t).leaves = t.leaves + lvS ss
  | [], t => rfl
  | s :: ss, t => by
    have := putS_leaves ss (app s t)
    rw [app_leaves] at this
    simp only [putS, lvS, this]
    omega
theorem lvS_app : ∀ ss ss' : List Stp, lvS (ss ++ ss') = lvS ss + lvS ss'
  | [], ss' => by simp [lvS]
  | s :: ss, ss' => by
    have := lvS_app ss ss'
    simp only [List.cons_append, lvS, this]
    omega
theorem lvS_le (L : Nat) : ∀ ss : List Stp, (∀ s ∈ ss, s.2.2.leaves ≤ L) → lvS ss ≤ L * ss.length
  | [], _ => Nat.zero_le _
  | s :: ss, h => by
    have h1 := h s (by simp)
    have h2 := lvS_le L ss fun x hx => h x (by simp [hx])
    simp only [lvS, List.length_cons, Nat.mul_add, Nat.mul_one]
    omega
def T.up : T → List Bool → List Stp
  | .node r a b, false :: p => a.up p ++ [(r, false, b)]
  | .node r a b, true :: p => b.up p ++ [(r, true, a)]
  | _, _ => []
def T.down : T → List Bool → List Stp
  | .node r a b, false :: p => (r, false, b) :: a.down p
  | .node r a b, true :: p => (r, true, a) :: b.down p
  | _, _ => []
theorem up_down : ∀ (t : T) (p : List Bool), (t.down p).reverse = t.up p
  | .leaf _, [] => rfl
  | .leaf _, _ :: _ => rfl
  | .node _ _ _, [] => rfl
  | .node r a b, false :: p => by simp only [T.down, T.up, List.reverse_cons, up_down a p]
  | .node r a b, true :: p => by simp only [T.down, T.up, List.reverse_cons, up_down b p]
theorem up_len : ∀ (t : T) (p : List Bool), (t.up p).length ≤ p.length
  | .leaf _, [] => by simp [T.up]
  | .leaf _, _ :: _ => by simp [T.up]
  | .node _ _ _, [] => by simp [T.up]
  | .node r a b, false :: p => by have := up_len a p; simp [T.up]; omega
  | .node r a b, true :: p => by have := up_len b p; simp [T.up]; omega
theorem up_put : ∀ (p : List Bool) (t o : T), t.ok p → putS (t.up p) o = t.put p o
  | [], t, o, _ => by rw [put_nil]; cases t <;> rfl
  | _ :: _, .leaf _, o, h => h.elim
  | false :: p, .node r a b, o, h => by simp only [T.up, putS_app, up_put p a o h, T.put]; rfl
  | true :: p, .node r a b, o, h => by simp only [T.up, putS_app, up_put p b o h, T.put]; rfl
theorem put_self : ∀ (p : List Bool) (t : T), t.ok p → t.put p (t.at p) = t
  | [], t, _ => by rw [put_nil]; cases t <;> rfl
  | _ :: _, .leaf _, h => h.elim
  | false :: p, .node r a b, h => by simp only [T.put, T.at, T.kid, put_self p a h]
  | true :: p, .node r a b, h => by simp only [T.put, T.at, T.kid, put_self p b h]
theorem up_lv : ∀ (p : List Bool) (t : T), ∀ s ∈ t.up p, s.2.2.leaves ≤ t.leaves
  | [], t, s, h => by cases t <;> simp [T.up] at h
  | _ :: _, .leaf _, s, h => by simp [T.up] at h
  | false :: p, .node r a b, s, h => by
    simp only [T.up, List.mem_append, List.mem_singleton] at h
    simp only [T.leaves]
    rcases h with h | rfl
    · have := up_lv p a s h; omega
    · simp only; omega
  | true :: p, .node r a b, s, h => by
    simp only [T.up, List.mem_append, List.mem_singleton] at h
    simp only [T.leaves]
    rcases h with h | rfl
    · have := up_lv p b s h; omega
    · simp only; omega
theorem ok_pre : ∀ (p q : List Bool) (t : T), t.ok (p ++ q) → t.ok p
  | [], q, t, _ => ok_nil t
  | x :: p, q, .leaf _, h => h.elim
  | false :: p, q, .node r a b, h => ok_pre p q a h
  | true :: p, q, .node r a b, h => ok_pre p q b h
theorem at_app : ∀ (p q : List Bool) (t : T), t.ok (p ++ q) → t.at (p ++ q) = (t.at p).at q
  | [], q, t, _ => by cases t <;> rfl
  | x :: p, q, .leaf _, h => h.elim
  | false :: p, q, .node r a b, h => at_app p q a h
  | true :: p, q, .node r a b, h => at_app p q b h
/-! ### the law's own steps up -/
theorem up_loop : ∀ (p : List Bool) (t : T) (x y : D) (acc : List D) (s2 : Sl), t.ok p → nIo s2 = true → acc.length + p.length ≤ 100 → ∃ s2' u, mLoop (gN 2) (mSeq (mAsg 3 (mOp2 addD (mLst (mCons (mTup (mCons (mOp2 ixD (mVar 4) (mC (.int 0))) (mCons (mVar 2) (mCons (mOp2 ixD (mVar 4) (mOp2 subD (mC (.int 2)) (mVar 2))) mNil)))) mNil)) (mVar 3)))
    (mAsg 4 (mOp2 ixD (mVar 4) (mOp2 addD (mC (.int 1)) (mVar 2))))) (p.map bD) [.val x, .val y, s2, .val (.lst acc), .val t.plain] = .ok .nx [.val x, .val y, s2', .val (.lst ((t.up p).map stP ++ acc)), .val u]
  | [], t, x, y, acc, s2, _, _, _ => ⟨s2, t.plain, by cases t <;> simp only [List.map_nil, mLoop, T.up, List.nil_append]⟩
  | _ :: _, .leaf _, x, y, acc, s2, h, _, _ => h.elim
  | false :: p, .node r a b, x, y, acc, s2, h, hs, hl => by
    simp only [List.length_cons] at hl
    obtain ⟨s2', u, ih⟩ := up_loop p a x y (stP (r, false, b) :: acc) (.val (.int 0)) h rfl (by simp only [List.length_cons]; omega)
    refine ⟨s2', u, ?_⟩
    have e : ((T.node r a b).up (false :: p)).map stP ++ acc = (a.up p).map stP ++ (stP (r, false, b) :: acc) := by simp [T.up]
    rw [e, plain_node, wd_node]
    simp only [stP, bD, bI] at ih
    have c : 1 + acc.length ≤ 16777216 := by omega
    have n2 : notIo (some s2) = true := hs
    simp only [List.map_cons, n2, stP, bD, bI, mLoop, at0, at1, at2, ih, int2_int, c, Int.reduceSub, Int.reduceAdd, Int.sub_zero, Int.add_zero, noX, fnSem, en0, pre0, ioOf, mSeq, mIfS, mRet, mRetN, mAsg, mAsgO, mExpr, mNext, mDead, mTest, mAnd, mOr, mNot, mIf, mAndV, mOrV, mNotV, notD, mChain, mOp1, mOp2, mC, mVar, mCall, mCons, mNil, mTup, mLst, mStar, mCallV, mCallD, mPar, mAsgG, gT, gTs, gN, setV, nio_v, nio_n, nio_o, nxt, Rs.bind, lift, asB, one1, two1, ixD, addD, subI, lenT, lenL, lenSc, tupD, intD, eq0, dI, dB, dS, List.length_cons, List.length_nil, List.map_cons, List.map_nil, List.append_nil, List.nil_append, List.cons_append, List.getElem?_cons_zero, List.getElem?_cons_succ, List.set_cons_zero, List.set_cons_succ, List.replicate, Option.bind_some, Option.map_some, Option.bind, Nat.zero_add, Nat.add_zero, Nat.reduceAdd, Nat.reduceSub, Nat.reduceEqDiff, if_true, if_false, reduceIte, Bool.false_eq_true, Bool.not_true, Bool.not_false, isSs, isSt, isTt, isTs, isIi, isBi, Nat.reduceLT, decide_true, decide_false, mSetF, clsAt, fldS, muOf, Sl.get, Sl.put, putD, mSetFs, fldsT, fldsS, allS, mMake, mMakeL, mCm, fnN, mJs, itSeq, mMeth, beq_self_eq_true, and_self, List.isEmpty_nil, List.isEmpty_cons, Option.map, big, Nat.reduceLeDiff, Nat.zero_le, Nat.le_refl]
  | true :: p, .node r a b, x, y, acc, s2, h, hs, hl => by
    simp only [List.length_cons] at hl
    obtain ⟨s2', u, ih⟩ := up_loop p b x y (stP (r, true, a) :: acc) (.val (.int 1)) h rfl (by simp only [List.length_cons]; omega)
    refine ⟨s2', u, ?_⟩
    have e : ((T.node r a b).up (true :: p)).map stP ++ acc = (b.up p).map stP ++ (stP (r, true, a) :: acc) := by simp [T.up]
    rw [e, plain_node, wd_node]
    simp only [stP, bD, bI] at ih
    have c : 1 + acc.length ≤ 16777216 := by omega
    have n2 : notIo (some s2) = true := hs
    simp only [List.map_cons, n2, stP, bD, bI, mLoop, at0, at1, at2, ih, int2_int, c, Int.reduceSub, Int.reduceAdd, noX, fnSem, en0, pre0, ioOf, mSeq, mIfS, mRet, mRetN, mAsg, mAsgO, mExpr, mNext, mDead, mTest, mAnd, mOr, mNot, mIf, mAndV, mOrV, mNotV, notD, mChain, mOp1, mOp2, mC, mVar, mCall, mCons, mNil, mTup, mLst, mStar, mCallV, mCallD, mPar, mAsgG, gT, gTs, gN, setV, nio_v, nio_n, nio_o, nxt, Rs.bind, lift, asB, one1, two1, ixD, addD, subI, lenT, lenL, lenSc, tupD, intD, eq0, dI, dB, dS, List.length_cons, List.length_nil, List.map_cons, List.map_nil, List.append_nil, List.nil_append, List.cons_append, List.getElem?_cons_zero, List.getElem?_cons_succ, List.set_cons_zero, List.set_cons_succ, List.replicate, Option.bind_some, Option.map_some, Option.bind, Nat.zero_add, Nat.add_zero, Nat.reduceAdd, Nat.reduceSub, Nat.reduceEqDiff, if_true, if_false, reduceIte, Bool.false_eq_true, Bool.not_true, Bool.not_false, isSs, isSt, isTt, isTs, isIi, isBi, Nat.reduceLT, decide_true, decide_false, mSetF, clsAt, fldS, muOf, Sl.get, Sl.put, putD, mSetFs, fldsT, fldsS, allS, mMake, mMakeL, mCm, fnN, mJs, itSeq, mMeth, beq_self_eq_true, and_self, List.isEmpty_nil, List.isEmpty_cons, Option.map, big, Nat.reduceLeDiff, Nat.zero_le, Nat.le_refl]
theorem steps_up_ok (t : T) (p : List Bool) (h : t.ok p) (hl : p.length ≤ 60) : fn_l_steps_up none [t.plain, pD p] = .ret (.lst ((t.up p).map stP), false) none := by
  obtain ⟨s2, u, e⟩ := up_loop p t t.plain (.tup (p.map bD)) [] .non h rfl (by simp; omega)
  rw [List.append_nil] at e
  simp only [pD, fn_l_steps_up, m_l_steps_up, p_l_steps_up_0, mFor, mIt, itT, e, noX, fnSem, en0, pre0, ioOf, mSeq, mIfS, mRet, mRetN, mAsg, mAsgO, mExpr, mNext, mDead, mTest, mAnd, mOr, mNot, mIf, mAndV, mOrV, mNotV, notD, mChain, mOp1, mOp2, mC, mVar, mCall, mCons, mNil, mTup, mLst, mStar, mCallV, mCallD, mPar, mAsgG, gT, gTs, gN, setV, nio_v, nio_n, nio_o, nxt, Rs.bind, lift, asB, one1, two1, ixD, addD, subI, lenT, lenL, lenSc, tupD, intD, eq0, dI, dB, dS, List.length_cons, List.length_nil, List.map_cons, List.map_nil, List.append_nil, List.nil_append, List.cons_append, List.getElem?_cons_zero, List.getElem?_cons_succ, List.set_cons_zero, List.set_cons_succ, List.replicate, Option.bind_some, Option.map_some, Option.bind, Nat.zero_add, Nat.add_zero, Nat.reduceAdd, Nat.reduceSub, Nat.reduceEqDiff, if_true, if_false, reduceIte, Bool.false_eq_true, Bool.not_true, Bool.not_false, isSs, isSt, isTt, isTs, isIi, isBi, Nat.reduceLT, decide_true, decide_false, mSetF, clsAt, fldS, muOf, Sl.get, Sl.put, putD, mSetFs, fldsT, fldsS, allS, mMake, mMakeL, mCm, fnN, mJs, itSeq, mMeth, beq_self_eq_true, and_self, List.isEmpty_nil, List.isEmpty_cons, Option.map, big, Nat.reduceLeDiff, Nat.zero_le, Nat.le_refl]
/-! ### steps made -/
theorem made_loop : ∀ (ss : List Stp) (acc : List D) (x : D), (∀ s ∈ ss, s.2.2.leaves ≤ 60) → acc.length + ss.length ≤ 1000 → mLcLoop (gT [(gN 1), (gN 2), (gN 3)]) [1, 2, 3] mYes (mTup (mCons (mVar 1) (mCons (mVar 2) (mCons (mCallV (fn_l_built 64) (mCons (mVar 3) mNil)) mNil)))) (ss.map stP) acc [.val x, .non, .non, .non] = .ok (acc ++ ss.map stO) [.val x, .non, .non, .non]
  | [], acc, x, _, _ => by simp only [List.map_nil, mLcLoop, List.append_nil]
  | (r, i, o) :: ss, acc, x, h, hl => by
    simp only [List.length_cons] at hl
    have ih := made_loop ss (acc ++ [stO (r, i, o)]) x (fun s hs => h s (by simp [hs])) (by simp; omega)
    have lo : o.leaves ≤ 60 := h (r, i, o) (by simp)
    have b := built_ok o 64 (by omega) lo
    have c : acc.length < 16777216 := by omega
    have e : acc ++ List.map stO ((r, i, o) :: ss) = acc ++ [stO (r, i, o)] ++ ss.map stO := by simp
    rw [e]
    simp only [stO] at ih
    simp only [stP, stO, mLcLoop, mYes, wipeE, b, c, ih, noX, fnSem, en0, pre0, ioOf, mSeq, mIfS, mRet, mRetN, mAsg, mAsgO, mExpr, mNext, mDead, mTest, mAnd, mOr, mNot, mIf, mAndV, mOrV, mNotV, notD, mChain, mOp1, mOp2, mC, mVar, mCall, mCons, mNil, mTup, mLst, mStar, mCallV, mCallD, mPar, mAsgG, gT, gTs, gN, setV, notIo, nxt, Rs.bind, lift, asB, one1, two1, ixD, addD, subD, lenT, lenL, lenSc, tupD, intD, eq0, dI, dB, dS, List.length_cons, List.length_nil, List.map_cons, List.map_nil, List.append_nil, List.nil_append, List.cons_append, List.getElem?_cons_zero, List.getElem?_cons_succ, List.set_cons_zero, List.set_cons_succ, List.replicate, Option.bind_some, Option.map_some, Option.bind, Nat.zero_add, Nat.add_zero, Nat.reduceAdd, Nat.reduceSub, Nat.reduceEqDiff, if_true, if_false, reduceIte, Bool.false_eq_true, Bool.not_true, Bool.not_false, isSs, isSt, isTt, isTs, isIi, isBi, Nat.reduceLT, decide_true, decide_false, mSetF, clsAt, fldS, muOf, Sl.get, Sl.put, putD, mSetFs, fldsT, fldsS, allS, mMake, mMakeL, mCm, fnN, mJs, itSeq, mMeth, beq_self_eq_true, and_self, List.isEmpty_nil, List.isEmpty_cons, Option.map, big, Nat.reduceLeDiff, Nat.zero_le, Nat.le_refl]
theorem steps_made_ok (ss : List Stp) (h : ∀ s ∈ ss, s.2.2.leaves ≤ 60) (hl : ss.length ≤ 60) : fn_l_steps_made none [.lst (ss.map stP)] = .ret (.tup (ss.map stO), false) none := by
  have e := made_loop ss [] (.lst (ss.map stP)) h (by simp; omega)
  rw [List.nil_append] at e
  have c : c_l_steps_made_0 [.val (.lst (ss.map stP)), .non, .non, .non] = .ok (.lst (ss.map stO), true) [.val (.lst (ss.map stP)), .non, .non, .non] := by
    simp only [c_l_steps_made_0, mLc, mIt, itL, wipeE, e, noX, fnSem, en0, pre0, ioOf, mSeq, mIfS, mRet, mRetN, mAsg, mAsgO, mExpr, mNext, mDead, mTest, mAnd, mOr, mNot, mIf, mAndV, mOrV, mNotV, notD, mChain, mOp1, mOp2, mC, mVar, mCall, mCons, mNil, mTup, mLst, mStar, mCallV, mCallD, mPar, mAsgG, gT, gTs, gN, setV, notIo, nxt, Rs.bind, lift, asB, one1, two1, ixD, addD, subD, lenT, lenL, lenSc, tupD, intD, eq0, dI, dB, dS, List.length_cons, List.length_nil, List.map_cons, List.map_nil, List.append_nil, List.nil_append, List.cons_append, List.getElem?_cons_zero, List.getElem?_cons_succ, List.set_cons_zero, List.set_cons_succ, List.replicate, Option.bind_some, Option.map_some, Option.bind, Nat.zero_add, Nat.add_zero, Nat.reduceAdd, Nat.reduceSub, Nat.reduceEqDiff, if_true, if_false, reduceIte, Bool.false_eq_true, Bool.not_true, Bool.not_false, isSs, isSt, isTt, isTs, isIi, isBi, Nat.reduceLT, decide_true, decide_false, mSetF, clsAt, fldS, muOf, Sl.get, Sl.put, putD, mSetFs, fldsT, fldsS, allS, mMake, mMakeL, mCm, fnN, mJs, itSeq, mMeth, beq_self_eq_true, and_self, List.isEmpty_nil, List.isEmpty_cons, Option.map, big, Nat.reduceLeDiff, Nat.zero_le, Nat.le_refl]
  simp only [fn_l_steps_made, m_l_steps_made, c, noX, fnSem, en0, pre0, ioOf, mSeq, mIfS, mRet, mRetN, mAsg, mAsgO, mExpr, mNext, mDead, mTest, mAnd, mOr, mNot, mIf, mAndV, mOrV, mNotV, notD, mChain, mOp1, mOp2, mC, mVar, mCall, mCons, mNil, mTup, mLst, mStar, mCallV, mCallD, mPar, mAsgG, gT, gTs, gN, setV, notIo, nxt, Rs.bind, lift, asB, one1, two1, ixD, addD, subD, lenT, lenL, lenSc, tupD, intD, eq0, dI, dB, dS, List.length_cons, List.length_nil, List.map_cons, List.map_nil, List.append_nil, List.nil_append, List.cons_append, List.getElem?_cons_zero, List.getElem?_cons_succ, List.set_cons_zero, List.set_cons_succ, List.replicate, Option.bind_some, Option.map_some, Option.bind, Nat.zero_add, Nat.add_zero, Nat.reduceAdd, Nat.reduceSub, Nat.reduceEqDiff, if_true, if_false, reduceIte, Bool.false_eq_true, Bool.not_true, Bool.not_false, isSs, isSt, isTt, isTs, isIi, isBi, Nat.reduceLT, decide_true, decide_false, mSetF, clsAt, fldS, muOf, Sl.get, Sl.put, putD, mSetFs, fldsT, fldsS, allS, mMake, mMakeL, mCm, fnN, mJs, itSeq, mMeth, beq_self_eq_true, and_self, List.isEmpty_nil, List.isEmpty_cons, Option.map, big, Nat.reduceLeDiff, Nat.zero_le, Nat.le_refl]
/-! ### what a surrounding makes -/
theorem app_obj (s : Stp) (t : T) (h : t.leaves + s.2.2.leaves ≤ 60) : fn_step_taken none [stO s, t.obj] = .ret ((app s t).obj, false) none := by
  obtain ⟨r, i, o⟩ := s
  simp only at h
  have o1 := opAdd t o h
  have o2 := opOr t o h
  have o3 := opAdd o t (by omega)
  have o4 := opOr o t (by omega)
  cases r <;> cases i <;> simp only [stO, app, wrd, bD, bI, fn_step_taken, m_step_taken, eqI0, eqI1, q1, q2, o1, o2, o3, o4, noX, fnSem, en0, pre0, ioOf, mSeq, mIfS, mRet, mRetN, mAsg, mAsgO, mExpr, mNext, mDead, mTest, mAnd, mOr, mNot, mIf, mAndV, mOrV, mNotV, notD, mChain, mOp1, mOp2, mC, mVar, mCall, mCons, mNil, mTup, mLst, mStar, mCallV, mCallD, mPar, mAsgG, gT, gTs, gN, setV, notIo, nxt, Rs.bind, lift, asB, one1, two1, ixD, addD, subD, lenT, lenL, lenSc, tupD, intD, eq0, dI, dB, dS, List.length_cons, List.length_nil, List.map_cons, List.map_nil, List.append_nil, List.nil_append, List.cons_append, List.getElem?_cons_zero, List.getElem?_cons_succ, List.set_cons_zero, List.set_cons_succ, List.replicate, Option.bind_some, Option.map_some, Option.bind, Nat.zero_add, Nat.add_zero, Nat.reduceAdd, Nat.reduceSub, Nat.reduceEqDiff, if_true, if_false, reduceIte, Bool.false_eq_true, Bool.not_true, Bool.not_false, isSs, isSt, isTt, isTs, isIi, isBi, Nat.reduceLT, decide_true, decide_false, mSetF, clsAt, fldS, muOf, Sl.get, Sl.put, putD, mSetFs, fldsT, fldsS, allS, mMake, mMakeL, mCm, fnN, mJs, itSeq, mMeth, beq_self_eq_true, and_self, List.isEmpty_nil, List.isEmpty_cons, Option.map, big, Nat.reduceLeDiff, Nat.zero_le, Nat.le_refl]
theorem int1_ok (b : Bool) : fn_is_count none [bD b] = .ret (.bl true, false) none := by
  have i := int_ok b
  have d : decide ((0 : Int) ≤ bI b) = true := by cases b <;> decide
  simp only [bD] at i ⊢
  simp only [fn_is_count, m_is_count, i, geI, int2_int, d, noX, fnSem, en0, pre0, ioOf, mSeq, mIfS, mRet, mRetN, mAsg, mAsgO, mExpr, mNext, mDead, mTest, mAnd, mOr, mNot, mIf, mAndV, mOrV, mNotV, notD, mChain, mOp1, mOp2, mC, mVar, mCall, mCons, mNil, mTup, mLst, mStar, mCallV, mCallD, mPar, mAsgG, gT, gTs, gN, setV, notIo, nxt, Rs.bind, lift, asB, one1, two1, ixD, addD, subD, lenT, lenL, lenSc, tupD, intD, eq0, dI, dB, dS, List.length_cons, List.length_nil, List.map_cons, List.map_nil, List.append_nil, List.nil_append, List.cons_append, List.getElem?_cons_zero, List.getElem?_cons_succ, List.set_cons_zero, List.set_cons_succ, List.replicate, Option.bind_some, Option.map_some, Option.bind, Nat.zero_add, Nat.add_zero, Nat.reduceAdd, Nat.reduceSub, Nat.reduceEqDiff, if_true, if_false, reduceIte, Bool.false_eq_true, Bool.not_true, Bool.not_false, isSs, isSt, isTt, isTs, isIi, isBi, Nat.reduceLT, decide_true, decide_false, mSetF, clsAt, fldS, muOf, Sl.get, Sl.put, putD, mSetFs, fldsT, fldsS, allS, mMake, mMakeL, mCm, fnN, mJs, itSeq, mMeth, beq_self_eq_true, and_self, List.isEmpty_nil, List.isEmpty_cons, Option.map, big, Nat.reduceLeDiff, Nat.zero_le, Nat.le_refl]
theorem in_wd (r : Bool) : inA true (.str (wrd r)) (.tup [.str "row", .str "side"]) = some (dB false) := by
  unfold inA
  rw [pyOk_str (by cases r <;> decide +kernel)]
  simp only [Option.bind_some, toPy, toPyL, Option.map_some]
  rw [if_pos (by decide +kernel)]
  have : (List.any [PyData.str "row", PyData.str "side"] fun z => PyData.eqv z (.str (wrd r))) = true := by cases r <;> decide +kernel
  rw [this]
  rfl
theorem ne33 : neD (.int 3) (.int 3) = some (dB false) := rfl
theorem z3 : ((3 : Nat) : Int) = 3 := rfl
theorem gt_b (b : Bool) : gtI (bD b) (.int 1) = some (dB false) := by cases b <;> rfl
theorem step_ok (s : Stp) : fn_is_step none [stO s] = .ret (.bl true, false) none := by
  obtain ⟨r, i, o⟩ := s
  have c := int1_ok i
  have w := in_wd r
  have g := gt_b i
  have io := is_obj o
  simp only [stO] at *
  generalize bD i = bi at *
  generalize o.obj = oo at *
  simp only [fn_is_step, m_is_step, ne33, z3, w, c, g, io, noX, fnSem, en0, pre0, ioOf, mSeq, mIfS, mRet, mRetN, mAsg, mAsgO, mExpr, mNext, mDead, mTest, mAnd, mOr, mNot, mIf, mAndV, mOrV, mNotV, notD, mChain, mOp1, mOp2, mC, mVar, mCall, mCons, mNil, mTup, mLst, mStar, mCallV, mCallD, mPar, mAsgG, gT, gTs, gN, setV, notIo, nxt, Rs.bind, lift, asB, one1, two1, ixD, addD, subD, lenT, lenL, lenSc, tupD, intD, eq0, dI, dB, dS, List.length_cons, List.length_nil, List.map_cons, List.map_nil, List.append_nil, List.nil_append, List.cons_append, List.getElem?_cons_zero, List.getElem?_cons_succ, List.set_cons_zero, List.set_cons_succ, List.replicate, Option.bind_some, Option.map_some, Option.bind, Nat.zero_add, Nat.add_zero, Nat.reduceAdd, Nat.reduceSub, Nat.reduceEqDiff, if_true, if_false, reduceIte, Bool.false_eq_true, Bool.not_true, Bool.not_false, isSs, isSt, isTt, isTs, isIi, isBi, Nat.reduceLT, decide_true, decide_false, mSetF, clsAt, fldS, muOf, Sl.get, Sl.put, putD, mSetFs, fldsT, fldsS, allS, mMake, mMakeL, mCm, fnN, mJs, itSeq, mMeth, beq_self_eq_true, and_self, List.isEmpty_nil, List.isEmpty_cons, Option.map, big, Nat.reduceLeDiff, Nat.zero_le, Nat.le_refl]
def stepB (d : D) : Bool := match fn_is_step none [d] with
  | .ret (.bl b, _) _ => b
  | _ => false
theorem bls_map (f : D → Bool) : ∀ ds : List D, blsD (ds.map fun d => .bl (f d)) = some (ds.map f)
  | [] => rfl
  | d :: ds => by simp only [List.map_cons, blsD, bls_map f ds, Option.map_some]
theorem surr_ok (ds : List D) (h : ∀ d ∈ ds, fn_is_step none [d] = .ret (.bl (stepB d), false) none) (hl : ds.length ≤ 60) : fn_is_surrounding none [.tup ds] = .ret (.bl (ds.all stepB), false) none := by
  have run := lc_run (j := 1) (me := (mCallV fn_is_step (mCons (mVar 1) mNil))) (f := fun d => (.bl (stepB d), false)) ds [] [.val (.tup ds), .non] (by simp [big]; omega) rfl rfl (fun d hd => by
    have e := h d hd
    simp only [e, noX, fnSem, en0, pre0, ioOf, mSeq, mIfS, mRet, mRetN, mAsg, mAsgO, mExpr, mNext, mDead, mTest, mAnd, mOr, mNot, mIf, mAndV, mOrV, mNotV, notD, mChain, mOp1, mOp2, mC, mVar, mCall, mCons, mNil, mTup, mLst, mStar, mCallV, mCallD, mPar, mAsgG, gT, gTs, gN, setV, notIo, nxt, Rs.bind, lift, asB, one1, two1, ixD, addD, subD, lenT, lenL, lenSc, tupD, intD, eq0, dI, dB, dS, List.length_cons, List.length_nil, List.map_cons, List.map_nil, List.append_nil, List.nil_append, List.cons_append, List.getElem?_cons_zero, List.getElem?_cons_succ, List.set_cons_zero, List.set_cons_succ, List.replicate, Option.bind_some, Option.map_some, Option.bind, Nat.zero_add, Nat.add_zero, Nat.reduceAdd, Nat.reduceSub, Nat.reduceEqDiff, if_true, if_false, reduceIte, Bool.false_eq_true, Bool.not_true, Bool.not_false, isSs, isSt, isTt, isTs, isIi, isBi, Nat.reduceLT, decide_true, decide_false, mSetF, clsAt, fldS, muOf, Sl.get, Sl.put, putD, mSetFs, fldsT, fldsS, allS, mMake, mMakeL, mCm, fnN, mJs, itSeq, mMeth, beq_self_eq_true, and_self, List.isEmpty_nil, List.isEmpty_cons, Option.map, big, Nat.reduceLeDiff, Nat.zero_le, Nat.le_refl])
  rw [List.nil_append] at run
  have c : c_is_surrounding_0 [.val (.tup ds), .non] = .ok (.lst (ds.map fun d => .bl (stepB d)), true) [.val (.tup ds), .non] := by
    unfold c_is_surrounding_0 mLc
    have hi : (mIt itT (mVar 0)) [.val (.tup ds), .non] = .ok ds [.val (.tup ds), .non] := by simp only [mIt, itT, noX, fnSem, en0, pre0, ioOf, mSeq, mIfS, mRet, mRetN, mAsg, mAsgO, mExpr, mNext, mDead, mTest, mAnd, mOr, mNot, mIf, mAndV, mOrV, mNotV, notD, mChain, mOp1, mOp2, mC, mVar, mCall, mCons, mNil, mTup, mLst, mStar, mCallV, mCallD, mPar, mAsgG, gT, gTs, gN, setV, notIo, nxt, Rs.bind, lift, asB, one1, two1, ixD, addD, subD, lenT, lenL, lenSc, tupD, intD, eq0, dI, dB, dS, List.length_cons, List.length_nil, List.map_cons, List.map_nil, List.append_nil, List.nil_append, List.cons_append, List.getElem?_cons_zero, List.getElem?_cons_succ, List.set_cons_zero, List.set_cons_succ, List.replicate, Option.bind_some, Option.map_some, Option.bind, Nat.zero_add, Nat.add_zero, Nat.reduceAdd, Nat.reduceSub, Nat.reduceEqDiff, if_true, if_false, reduceIte, Bool.false_eq_true, Bool.not_true, Bool.not_false, isSs, isSt, isTt, isTs, isIi, isBi, Nat.reduceLT, decide_true, decide_false, mSetF, clsAt, fldS, muOf, Sl.get, Sl.put, putD, mSetFs, fldsT, fldsS, allS, mMake, mMakeL, mCm, fnN, mJs, itSeq, mMeth, beq_self_eq_true, and_self, List.isEmpty_nil, List.isEmpty_cons, Option.map, big, Nat.reduceLeDiff, Nat.zero_le, Nat.le_refl]
    rw [hi]
    show Rs.bind (mLcLoop _ _ _ _ _ _ (wipeE _ [1])) _ = _
    have hw : wipeE [Sl.val (.tup ds), .non] [1] = [.val (.tup ds), .non] := rfl
    rw [hw, run]
    rfl
  have d : decide (((ds.length : Nat) : Int) ≤ 60) = true := decide_eq_true (by omega)
  have a : allD false (.lst (ds.map fun d => .bl (stepB d))) = some (dB (ds.all stepB)) := by
    show (blsD _).map _ = _
    rw [bls_map]
    simp [List.all_map]
  simp only [fn_is_surrounding, m_is_surrounding, c, leI_int, d, a, noX, fnSem, en0, pre0, ioOf, mSeq, mIfS, mRet, mRetN, mAsg, mAsgO, mExpr, mNext, mDead, mTest, mAnd, mOr, mNot, mIf, mAndV, mOrV, mNotV, notD, mChain, mOp1, mOp2, mC, mVar, mCall, mCons, mNil, mTup, mLst, mStar, mCallV, mCallD, mPar, mAsgG, gT, gTs, gN, setV, notIo, nxt, Rs.bind, lift, asB, one1, two1, ixD, addD, subD, lenT, lenL, lenSc, tupD, intD, eq0, dI, dB, dS, List.length_cons, List.length_nil, List.map_cons, List.map_nil, List.append_nil, List.nil_append, List.cons_append, List.getElem?_cons_zero, List.getElem?_cons_succ, List.set_cons_zero, List.set_cons_succ, List.replicate, Option.bind_some, Option.map_some, Option.bind, Nat.zero_add, Nat.add_zero, Nat.reduceAdd, Nat.reduceSub, Nat.reduceEqDiff, if_true, if_false, reduceIte, Bool.false_eq_true, Bool.not_true, Bool.not_false, isSs, isSt, isTt, isTs, isIi, isBi, Nat.reduceLT, decide_true, decide_false, mSetF, clsAt, fldS, muOf, Sl.get, Sl.put, putD, mSetFs, fldsT, fldsS, allS, mMake, mMakeL, mCm, fnN, mJs, itSeq, mMeth, beq_self_eq_true, and_self, List.isEmpty_nil, List.isEmpty_cons, Option.map, big, Nat.reduceLeDiff, Nat.zero_le, Nat.le_refl]
theorem stepB_ok (s : Stp) : stepB (stO s) = true := by unfold stepB; rw [step_ok]
theorem good_ok (ss : List Stp) (hl : ss.length ≤ 60) : fn_is_surrounding none [.tup (ss.map stO)] = .ret (.bl true, false) none := by
  rw [surr_ok (ss.map stO) (fun d hd => by
    obtain ⟨s, _, rfl⟩ := List.mem_map.mp hd
    rw [stepB_ok, step_ok]) (by simpa using hl)]
  have : (ss.map stO).all stepB = true := List.all_eq_true.mpr fun d hd => by
    obtain ⟨s, _, rfl⟩ := List.mem_map.mp hd
    exact stepB_ok s
  rw [this]
theorem put_loop2 : ∀ (ss : List Stp) (t : T) (x : D) (s2 : Sl), (putS ss t).leaves ≤ 60 → nIo s2 = true → ∃ s2', mLoop (gN 2) (mAsg 1 (mCallV fn_step_taken (mCons (mVar 2) (mCons (mVar 1) mNil)))) (ss.map stO) [.val x, .val t.obj, s2] = .ok .nx [.val x, .val (putS ss t).obj, s2']
  | [], t, x, s2, _, _ => ⟨s2, by simp only [List.map_nil, mLoop, putS]⟩
  | s :: ss, t, x, s2, h, hs => by
    simp only [putS] at h ⊢
    obtain ⟨s2', ih⟩ := put_loop2 ss (app s t) x (.val (stO s)) h rfl
    refine ⟨s2', ?_⟩
    have l := putS_leaves ss (app s t)
    have e := app_obj s t (by rw [app_leaves] at l; omega)
    have n2 : notIo (some s2) = true := hs
    rw [List.map_cons]
    generalize stO s = os at *
    simp only [mLoop, n2, e, ih, noX, fnSem, en0, pre0, ioOf, mSeq, mIfS, mRet, mRetN, mAsg, mAsgO, mExpr, mNext, mDead, mTest, mAnd, mOr, mNot, mIf, mAndV, mOrV, mNotV, notD, mChain, mOp1, mOp2, mC, mVar, mCall, mCons, mNil, mTup, mLst, mStar, mCallV, mCallD, mPar, mAsgG, gT, gTs, gN, setV, nio_v, nio_n, nio_o, nxt, Rs.bind, lift, asB, one1, two1, ixD, addD, subI, lenT, lenL, lenSc, tupD, intD, eq0, dI, dB, dS, List.length_cons, List.length_nil, List.map_cons, List.map_nil, List.append_nil, List.nil_append, List.cons_append, List.getElem?_cons_zero, List.getElem?_cons_succ, List.set_cons_zero, List.set_cons_succ, List.replicate, Option.bind_some, Option.map_some, Option.bind, Nat.zero_add, Nat.add_zero, Nat.reduceAdd, Nat.reduceSub, Nat.reduceEqDiff, if_true, if_false, reduceIte, Bool.false_eq_true, Bool.not_true, Bool.not_false, isSs, isSt, isTt, isTs, isIi, isBi, Nat.reduceLT, decide_true, decide_false, mSetF, clsAt, fldS, muOf, Sl.get, Sl.put, putD, mSetFs, fldsT, fldsS, allS, mMake, mMakeL, mCm, fnN, mJs, itSeq, mMeth, beq_self_eq_true, and_self, List.isEmpty_nil, List.isEmpty_cons, Option.map, big, Nat.reduceLeDiff, Nat.zero_le, Nat.le_refl]
theorem into_ok (ss : List Stp) (t : T) (hl : ss.length ≤ 60) (h : (putS ss t).leaves ≤ 60) : fn_put_into none [.tup (ss.map stO), t.obj] = .ret ((putS ss t).obj, false) none := by
  obtain ⟨s2, e⟩ := put_loop2 ss t (.tup (ss.map stO)) .non h rfl
  have g := good_ok ss hl
  have r1 : fn_require_surrounding none [.tup (ss.map stO)] = .ret (.non, false) none := by simp only [fn_require_surrounding, m_require_surrounding, g, noX, fnSem, en0, pre0, ioOf, mSeq, mIfS, mRet, mRetN, mAsg, mAsgO, mExpr, mNext, mDead, mTest, mAnd, mOr, mNot, mIf, mAndV, mOrV, mNotV, notD, mChain, mOp1, mOp2, mC, mVar, mCall, mCons, mNil, mTup, mLst, mStar, mCallV, mCallD, mPar, mAsgG, gT, gTs, gN, setV, notIo, nxt, Rs.bind, lift, asB, one1, two1, ixD, addD, subD, lenT, lenL, lenSc, tupD, intD, eq0, dI, dB, dS, List.length_cons, List.length_nil, List.map_cons, List.map_nil, List.append_nil, List.nil_append, List.cons_append, List.getElem?_cons_zero, List.getElem?_cons_succ, List.set_cons_zero, List.set_cons_succ, List.replicate, Option.bind_some, Option.map_some, Option.bind, Nat.zero_add, Nat.add_zero, Nat.reduceAdd, Nat.reduceSub, Nat.reduceEqDiff, if_true, if_false, reduceIte, Bool.false_eq_true, Bool.not_true, Bool.not_false, isSs, isSt, isTt, isTs, isIi, isBi, Nat.reduceLT, decide_true, decide_false, mSetF, clsAt, fldS, muOf, Sl.get, Sl.put, putD, mSetFs, fldsT, fldsS, allS, mMake, mMakeL, mCm, fnN, mJs, itSeq, mMeth, beq_self_eq_true, and_self, List.isEmpty_nil, List.isEmpty_cons, Option.map, big, Nat.reduceLeDiff, Nat.zero_le, Nat.le_refl]
  have r2 : fn_require_a_building none [t.obj] = .ret (.non, false) none := by simp only [fn_require_a_building, m_require_a_building, is_obj, noX, fnSem, en0, pre0, ioOf, mSeq, mIfS, mRet, mRetN, mAsg, mAsgO, mExpr, mNext, mDead, mTest, mAnd, mOr, mNot, mIf, mAndV, mOrV, mNotV, notD, mChain, mOp1, mOp2, mC, mVar, mCall, mCons, mNil, mTup, mLst, mStar, mCallV, mCallD, mPar, mAsgG, gT, gTs, gN, setV, notIo, nxt, Rs.bind, lift, asB, one1, two1, ixD, addD, subD, lenT, lenL, lenSc, tupD, intD, eq0, dI, dB, dS, List.length_cons, List.length_nil, List.map_cons, List.map_nil, List.append_nil, List.nil_append, List.cons_append, List.getElem?_cons_zero, List.getElem?_cons_succ, List.set_cons_zero, List.set_cons_succ, List.replicate, Option.bind_some, Option.map_some, Option.bind, Nat.zero_add, Nat.add_zero, Nat.reduceAdd, Nat.reduceSub, Nat.reduceEqDiff, if_true, if_false, reduceIte, Bool.false_eq_true, Bool.not_true, Bool.not_false, isSs, isSt, isTt, isTs, isIi, isBi, Nat.reduceLT, decide_true, decide_false, mSetF, clsAt, fldS, muOf, Sl.get, Sl.put, putD, mSetFs, fldsT, fldsS, allS, mMake, mMakeL, mCm, fnN, mJs, itSeq, mMeth, beq_self_eq_true, and_self, List.isEmpty_nil, List.isEmpty_cons, Option.map, big, Nat.reduceLeDiff, Nat.zero_le, Nat.le_refl]
  simp only [fn_put_into, m_put_into, p_put_into_0, mFor, mIt, itT, r1, r2, e, noX, fnSem, en0, pre0, ioOf, mSeq, mIfS, mRet, mRetN, mAsg, mAsgO, mExpr, mNext, mDead, mTest, mAnd, mOr, mNot, mIf, mAndV, mOrV, mNotV, notD, mChain, mOp1, mOp2, mC, mVar, mCall, mCons, mNil, mTup, mLst, mStar, mCallV, mCallD, mPar, mAsgG, gT, gTs, gN, setV, notIo, nxt, Rs.bind, lift, asB, one1, two1, ixD, addD, subD, lenT, lenL, lenSc, tupD, intD, eq0, dI, dB, dS, List.length_cons, List.length_nil, List.map_cons, List.map_nil, List.append_nil, List.nil_append, List.cons_append, List.getElem?_cons_zero, List.getElem?_cons_succ, List.set_cons_zero, List.set_cons_succ, List.replicate, Option.bind_some, Option.map_some, Option.bind, Nat.zero_add, Nat.add_zero, Nat.reduceAdd, Nat.reduceSub, Nat.reduceEqDiff, if_true, if_false, reduceIte, Bool.false_eq_true, Bool.not_true, Bool.not_false, isSs, isSt, isTt, isTs, isIi, isBi, Nat.reduceLT, decide_true, decide_false, mSetF, clsAt, fldS, muOf, Sl.get, Sl.put, putD, mSetFs, fldsT, fldsS, allS, mMake, mMakeL, mCm, fnN, mJs, itSeq, mMeth, beq_self_eq_true, and_self, List.isEmpty_nil, List.isEmpty_cons, Option.map, big, Nat.reduceLeDiff, Nat.zero_le, Nat.le_refl]
theorem l_put_loop : ∀ (ss : List Stp) (t : T) (x : D) (s2 s3 s4 : Sl), nIo s2 = true → nIo s3 = true → nIo s4 = true → ∃ s2' s3' s4', mLoop (gT [(gN 2), (gN 3), (gN 4)]) (mAsg 1 (mIf (mTest (mOp2 eqD (mVar 3) (mC (.int 0)))) (mTup (mCons (mVar 2) (mCons (mVar 1) (mCons (mVar 4) mNil)))) (mTup (mCons (mVar 2) (mCons (mVar 4) (mCons (mVar 1) mNil)))))) (ss.map stP) [.val x, .val t.plain, s2, s3, s4] = .ok .nx [.val x, .val (putS ss t).plain, s2', s3', s4']
  | [], t, x, s2, s3, s4, _, _, _ => ⟨s2, s3, s4, by simp only [List.map_nil, mLoop, putS]⟩
  | (r, false, o) :: ss, t, x, s2, s3, s4, h2, h3, h4 => by
    obtain ⟨s2', s3', s4', ih⟩ := l_put_loop ss (.node r t o) x (.val (.str (wrd r))) (.val (.int 0)) (.val o.plain) rfl rfl rfl
    refine ⟨s2', s3', s4', ?_⟩
    rw [plain_node, wd_node] at ih
    show _ = Rs.ok Fl.nx [.val x, .val (putS ss (.node r t o)).plain, s2', s3', s4']
    have n2 : notIo (some s2) = true := h2
    have n3 : notIo (some s3) = true := h3
    have n4 : notIo (some s4) = true := h4
    simp only [List.map_cons, stP, bD, bI, mLoop, n2, n3, n4, eqI0, ih, noX, fnSem, en0, pre0, ioOf, mSeq, mIfS, mRet, mRetN, mAsg, mAsgO, mExpr, mNext, mDead, mTest, mAnd, mOr, mNot, mIf, mAndV, mOrV, mNotV, notD, mChain, mOp1, mOp2, mC, mVar, mCall, mCons, mNil, mTup, mLst, mStar, mCallV, mCallD, mPar, mAsgG, gT, gTs, gN, setV, nio_v, nio_n, nio_o, nxt, Rs.bind, lift, asB, one1, two1, ixD, addD, subI, lenT, lenL, lenSc, tupD, intD, eq0, dI, dB, dS, List.length_cons, List.length_nil, List.map_cons, List.map_nil, List.append_nil, List.nil_append, List.cons_append, List.getElem?_cons_zero, List.getElem?_cons_succ, List.set_cons_zero, List.set_cons_succ, List.replicate, Option.bind_some, Option.map_some, Option.bind, Nat.zero_add, Nat.add_zero, Nat.reduceAdd, Nat.reduceSub, Nat.reduceEqDiff, if_true, if_false, reduceIte, Bool.false_eq_true, Bool.not_true, Bool.not_false, isSs, isSt, isTt, isTs, isIi, isBi, Nat.reduceLT, decide_true, decide_false, mSetF, clsAt, fldS, muOf, Sl.get, Sl.put, putD, mSetFs, fldsT, fldsS, allS, mMake, mMakeL, mCm, fnN, mJs, itSeq, mMeth, beq_self_eq_true, and_self, List.isEmpty_nil, List.isEmpty_cons, Option.map, big, Nat.reduceLeDiff, Nat.zero_le, Nat.le_refl]
  | (r, true, o) :: ss, t, x, s2, s3, s4, h2, h3, h4 => by
    obtain ⟨s2', s3', s4', ih⟩ := l_put_loop ss (.node r o t) x (.val (.str (wrd r))) (.val (.int 1)) (.val o.plain) rfl rfl rfl
    refine ⟨s2', s3', s4', ?_⟩
    rw [plain_node, wd_node] at ih
    show _ = Rs.ok Fl.nx [.val x, .val (putS ss (.node r o t)).plain, s2', s3', s4']
    have n2 : notIo (some s2) = true := h2
    have n3 : notIo (some s3) = true := h3
    have n4 : notIo (some s4) = true := h4
    simp only [List.map_cons, stP, bD, bI, mLoop, n2, n3, n4, eqI1, ih, noX, fnSem, en0, pre0, ioOf, mSeq, mIfS, mRet, mRetN, mAsg, mAsgO, mExpr, mNext, mDead, mTest, mAnd, mOr, mNot, mIf, mAndV, mOrV, mNotV, notD, mChain, mOp1, mOp2, mC, mVar, mCall, mCons, mNil, mTup, mLst, mStar, mCallV, mCallD, mPar, mAsgG, gT, gTs, gN, setV, nio_v, nio_n, nio_o, nxt, Rs.bind, lift, asB, one1, two1, ixD, addD, subI, lenT, lenL, lenSc, tupD, intD, eq0, dI, dB, dS, List.length_cons, List.length_nil, List.map_cons, List.map_nil, List.append_nil, List.nil_append, List.cons_append, List.getElem?_cons_zero, List.getElem?_cons_succ, List.set_cons_zero, List.set_cons_succ, List.replicate, Option.bind_some, Option.map_some, Option.bind, Nat.zero_add, Nat.add_zero, Nat.reduceAdd, Nat.reduceSub, Nat.reduceEqDiff, if_true, if_false, reduceIte, Bool.false_eq_true, Bool.not_true, Bool.not_false, isSs, isSt, isTt, isTs, isIi, isBi, Nat.reduceLT, decide_true, decide_false, mSetF, clsAt, fldS, muOf, Sl.get, Sl.put, putD, mSetFs, fldsT, fldsS, allS, mMake, mMakeL, mCm, fnN, mJs, itSeq, mMeth, beq_self_eq_true, and_self, List.isEmpty_nil, List.isEmpty_cons, Option.map, big, Nat.reduceLeDiff, Nat.zero_le, Nat.le_refl]
theorem l_put_ok (ss : List Stp) (t : T) : fn_l_put none [.lst (ss.map stP), t.plain] = .ret ((putS ss t).plain, false) none := by
  obtain ⟨s2, s3, s4, e⟩ := l_put_loop ss t (.lst (ss.map stP)) .non .non .non rfl rfl rfl
  simp only [fn_l_put, m_l_put, p_l_put_0, mFor, mIt, itL, e, noX, fnSem, en0, pre0, ioOf, mSeq, mIfS, mRet, mRetN, mAsg, mAsgO, mExpr, mNext, mDead, mTest, mAnd, mOr, mNot, mIf, mAndV, mOrV, mNotV, notD, mChain, mOp1, mOp2, mC, mVar, mCall, mCons, mNil, mTup, mLst, mStar, mCallV, mCallD, mPar, mAsgG, gT, gTs, gN, setV, notIo, nxt, Rs.bind, lift, asB, one1, two1, ixD, addD, subD, lenT, lenL, lenSc, tupD, intD, eq0, dI, dB, dS, List.length_cons, List.length_nil, List.map_cons, List.map_nil, List.append_nil, List.nil_append, List.cons_append, List.getElem?_cons_zero, List.getElem?_cons_succ, List.set_cons_zero, List.set_cons_succ, List.replicate, Option.bind_some, Option.map_some, Option.bind, Nat.zero_add, Nat.add_zero, Nat.reduceAdd, Nat.reduceSub, Nat.reduceEqDiff, if_true, if_false, reduceIte, Bool.false_eq_true, Bool.not_true, Bool.not_false, isSs, isSt, isTt, isTs, isIi, isBi, Nat.reduceLT, decide_true, decide_false, mSetF, clsAt, fldS, muOf, Sl.get, Sl.put, putD, mSetFs, fldsT, fldsS, allS, mMake, mMakeL, mCm, fnN, mJs, itSeq, mMeth, beq_self_eq_true, and_self, List.isEmpty_nil, List.isEmpty_cons, Option.map, big, Nat.reduceLeDiff, Nat.zero_le, Nat.le_refl]
theorem leaves_ok : ∀ (t : T) (n : Nat), t.leaves ≤ n → t.leaves ≤ 60 → fn_l_leaves n none [t.plain] = .ret (.lst t.lv, true) none
  | .leaf b, 0, h, _ => by simp [T.leaves] at h
  | .node r a b, 0, h, _ => by have := T.pos (.node r a b); omega
  | .leaf true, n + 1, _, _ => by simp only [fn_l_leaves, m_l_leaves, T.plain, T.lv, noX, fnSem, en0, pre0, ioOf, mSeq, mIfS, mRet, mRetN, mAsg, mAsgO, mExpr, mNext, mDead, mTest, mAnd, mOr, mNot, mIf, mAndV, mOrV, mNotV, notD, mChain, mOp1, mOp2, mC, mVar, mCall, mCons, mNil, mTup, mLst, mStar, mCallV, mCallD, mPar, mAsgG, gT, gTs, gN, setV, notIo, nxt, Rs.bind, lift, asB, one1, two1, ixD, addD, subD, lenT, lenL, lenSc, tupD, intD, eq0, dI, dB, dS, List.length_cons, List.length_nil, List.map_cons, List.map_nil, List.append_nil, List.nil_append, List.cons_append, List.getElem?_cons_zero, List.getElem?_cons_succ, List.set_cons_zero, List.set_cons_succ, List.replicate, Option.bind_some, Option.map_some, Option.bind, Nat.zero_add, Nat.add_zero, Nat.reduceAdd, Nat.reduceSub, Nat.reduceEqDiff, if_true, if_false, reduceIte, Bool.false_eq_true, Bool.not_true, Bool.not_false, isSs, isSt, isTt, isTs, isIi, isBi, Nat.reduceLT, decide_true, decide_false, mSetF, clsAt, fldS, muOf, Sl.get, Sl.put, putD, mSetFs, fldsT, fldsS, allS, mMake, mMakeL, mCm, fnN, mJs, itSeq, mMeth, beq_self_eq_true, and_self, List.isEmpty_nil, List.isEmpty_cons, Option.map, big, Nat.reduceLeDiff, Nat.zero_le, Nat.le_refl]
  | .leaf false, n + 1, _, _ => by simp only [fn_l_leaves, m_l_leaves, T.plain, T.lv, noX, fnSem, en0, pre0, ioOf, mSeq, mIfS, mRet, mRetN, mAsg, mAsgO, mExpr, mNext, mDead, mTest, mAnd, mOr, mNot, mIf, mAndV, mOrV, mNotV, notD, mChain, mOp1, mOp2, mC, mVar, mCall, mCons, mNil, mTup, mLst, mStar, mCallV, mCallD, mPar, mAsgG, gT, gTs, gN, setV, notIo, nxt, Rs.bind, lift, asB, one1, two1, ixD, addD, subD, lenT, lenL, lenSc, tupD, intD, eq0, dI, dB, dS, List.length_cons, List.length_nil, List.map_cons, List.map_nil, List.append_nil, List.nil_append, List.cons_append, List.getElem?_cons_zero, List.getElem?_cons_succ, List.set_cons_zero, List.set_cons_succ, List.replicate, Option.bind_some, Option.map_some, Option.bind, Nat.zero_add, Nat.add_zero, Nat.reduceAdd, Nat.reduceSub, Nat.reduceEqDiff, if_true, if_false, reduceIte, Bool.false_eq_true, Bool.not_true, Bool.not_false, isSs, isSt, isTt, isTs, isIi, isBi, Nat.reduceLT, decide_true, decide_false, mSetF, clsAt, fldS, muOf, Sl.get, Sl.put, putD, mSetFs, fldsT, fldsS, allS, mMake, mMakeL, mCm, fnN, mJs, itSeq, mMeth, beq_self_eq_true, and_self, List.isEmpty_nil, List.isEmpty_cons, Option.map, big, Nat.reduceLeDiff, Nat.zero_le, Nat.le_refl]
  | .node r a b, n + 1, h, h6 => by
    have pa := a.pos
    have pb := b.pos
    simp only [T.leaves] at h h6
    have ia := leaves_ok a n (by omega) (by omega)
    have ib := leaves_ok b n (by omega) (by omega)
    have c : a.leaves + b.leaves ≤ 16777216 := by omega
    rw [plain_node]
    simp only [fn_l_leaves, m_l_leaves, T.lv, at0, at1, at2, ia, ib, lv_len, c, noX, fnSem, en0, pre0, ioOf, mSeq, mIfS, mRet, mRetN, mAsg, mAsgO, mExpr, mNext, mDead, mTest, mAnd, mOr, mNot, mIf, mAndV, mOrV, mNotV, notD, mChain, mOp1, mOp2, mC, mVar, mCall, mCons, mNil, mTup, mLst, mStar, mCallV, mCallD, mPar, mAsgG, gT, gTs, gN, setV, notIo, nxt, Rs.bind, lift, asB, one1, two1, ixD, addD, subD, lenT, lenL, lenSc, tupD, intD, eq0, dI, dB, dS, List.length_cons, List.length_nil, List.map_cons, List.map_nil, List.append_nil, List.nil_append, List.cons_append, List.getElem?_cons_zero, List.getElem?_cons_succ, List.set_cons_zero, List.set_cons_succ, List.replicate, Option.bind_some, Option.map_some, Option.bind, Nat.zero_add, Nat.add_zero, Nat.reduceAdd, Nat.reduceSub, Nat.reduceEqDiff, if_true, if_false, reduceIte, Bool.false_eq_true, Bool.not_true, Bool.not_false, isSs, isSt, isTt, isTs, isIi, isBi, Nat.reduceLT, decide_true, decide_false, mSetF, clsAt, fldS, muOf, Sl.get, Sl.put, putD, mSetFs, fldsT, fldsS, allS, mMake, mMakeL, mCm, fnN, mJs, itSeq, mMeth, beq_self_eq_true, and_self, List.isEmpty_nil, List.isEmpty_cons, Option.map, big, Nat.reduceLeDiff, Nat.zero_le, Nat.le_refl]
end PM.G

namespace PM.G
open PySem PySem.Spec L2 PM
open PySem.PyData (strOk)
theorem append_eq (i : Nat) (mr : MA) (ρ : En) : mAppend i mr ρ = (mBehind i mr fun ys s m ρ1 => match m, ys with
  | .lst ds, [y] => if ds.length < sizeLine then .ok (.non, false) (ρ1.set i (s.put (.lst (ds ++ [y])))) else .stuck
  | _, _ => .stuck) ρ := rfl
theorem rng1_ok (i : Int) (h : 0 ≤ i) (h' : i < 1000) : rng1 [.int i] = some (rgL 0 i.toNat) := by
  show (if -(2 ^ 62) ≤ i ∧ i < 2 ^ 62 then some (rgL 0 i.toNat) else none) = _
  rw [if_pos ⟨by omega, by omega⟩]
/-! ### the surrounding of a part -/
theorem notIn_ok (ps : List (List Bool)) (p : List Bool) (h : p ∈ ps) : inA true (pD p) (.tup (ps.map pD)) = some (dB false) := by
  unfold inA
  rw [pyOk_p]
  simp only [Option.bind_some, toPy, toPyL_p, Option.map_some, canLay_ps, if_true]
  have : ((ps.map pyP).any fun z => PyData.eqv z (pyP p)) = true := List.any_eq_true.mpr ⟨pyP p, List.mem_map.mpr ⟨p, h, rfl⟩, by simp only [pyP, PyData.eqv, eqvP, decide_true]⟩
  rw [this]
  rfl
theorem sur_loop (t : T) : ∀ (suf pre : List Bool) (s : T) (acc : List D) (s3 s4 s5 : Sl), t.ok (pre ++ suf) → t.at pre = s → s.ok suf → nIo s3 = true → nIo s4 = true → nIo s5 = true → acc.length + suf.length ≤ 100 → ∃ s3' s4' s5',
    mLoop (gT [(gN 3), (gN 4)]) (mSeq (mAsg 5 (mMeth 0 fn_Building_at (mVar 0) (mCons (mSl (mVar 1) mNo (mPart (mVar 3))) mNil)))
    (mExpr (mAppend 2 (mCons (mTup (mCons (mOp1 (fldD ix_word) (mVar 5)) (mCons (mVar 4) (mCons (mOp2 ixD (mOp1 (fun x => objN 0 fn_Building_parts [x]) (mVar 5)) (mOp2 subD (mC (.int 1)) (mVar 4))) mNil)))) mNil)))) (enumL pre.length (suf.map bD)) [.val t.obj, .val (pD (pre ++ suf)), .own (.lst acc), s3, s4, s5] = .ok .nx [.val t.obj, .val (pD (pre ++ suf)), .own (.lst (acc ++ (s.down suf).map stO)), s3', s4', s5']
  | [], pre, s, acc, s3, s4, s5, _, _, _, _, _, _, _ => ⟨s3, s4, s5, by cases s <;> simp only [List.map_nil, enumL, mLoop, T.down, List.append_nil]⟩
  | _ :: _, pre, .leaf _, acc, s3, s4, s5, _, _, h, _, _, _, _ => h.elim
  | x :: suf, pre, .node r a b, acc, s3, s4, s5, h0, h1, h2, k3, k4, k5, hl => by
    simp only [List.length_cons] at hl
    have n3 : notIo (some s3) = true := k3
    have n4 : notIo (some s4) = true := k4
    have n5 : notIo (some s5) = true := k5
    have ea : pre ++ x :: suf = (pre ++ [x]) ++ suf := by simp
    have okp := ok_pre pre (x :: suf) t h0
    have e1 := at_ok t pre okp
    rw [h1] at e1
    have e2 := slP (pre ++ x :: suf) pre.length
    rw [List.take_left] at e2
    have e3 := fld_word (T.node r a b)
    rw [wd_node] at e3
    have e4 := parts_prop r a b
    have i1 := isO t
    have c : acc.length < 16777216 := by omega
    have el : (pre ++ [x]).length = pre.length + 1 := by simp
    have h0' := h0
    rw [ea] at h0'
    have h1' : t.at (pre ++ [x]) = (T.node r a b).kid x := by rw [at_app pre [x] t (ok_pre (pre ++ [x]) suf t h0'), h1]; cases x <;> cases a <;> cases b <;> rfl
    cases x
    · obtain ⟨s3', s4', s5', ih⟩ := sur_loop t suf (pre ++ [false]) a (acc ++ [stO (r, false, b)]) (.val (.int (pre.length : Nat))) (.val (.int 0)) (.val (T.node r a b).obj) h0' h1' h2 rfl rfl rfl (by simp; omega)
      refine ⟨s3', s4', s5', ?_⟩
      rw [el, ← ea] at ih
      have e : acc ++ List.map stO ((T.node r a b).down (false :: suf)) = acc ++ [stO (r, false, b)] ++ (a.down suf).map stO := by simp [T.down]
      rw [e]
      simp only [stO, bD, bI] at ih
      generalize (T.node r a b).obj = on at *
      generalize t.obj = ot at *
      generalize pD (pre ++ false :: suf) = pp at *
      generalize pD pre = pq at *
      simp only [List.map_cons, enumL, stO, bD, bI, mLoop, mBehind, append_eq, mSl, mPart, mNo, asI, n3, n4, n5, i1, e1, e2, e3, e4, at1, at0, c, int2_int, Int.reduceSub, Int.sub_zero, ih, noX, fnSem, en0, pre0, ioOf, mSeq, mIfS, mRet, mRetN, mAsg, mAsgO, mExpr, mNext, mDead, mTest, mAnd, mOr, mNot, mIf, mAndV, mOrV, mNotV, notD, mChain, mOp1, mOp2, mC, mVar, mCall, mCons, mNil, mTup, mLst, mStar, mCallV, mCallD, mPar, mAsgG, gT, gTs, gN, setV, nio_v, nio_n, nio_o, nxt, Rs.bind, lift, asB, one1, two1, ixD, addD, subI, lenT, lenL, lenSc, tupD, intD, eq0, dI, dB, dS, List.length_cons, List.length_nil, List.map_cons, List.map_nil, List.append_nil, List.nil_append, List.cons_append, List.getElem?_cons_zero, List.getElem?_cons_succ, List.set_cons_zero, List.set_cons_succ, List.replicate, Option.bind_some, Option.map_some, Option.bind, Nat.zero_add, Nat.add_zero, Nat.reduceAdd, Nat.reduceSub, Nat.reduceEqDiff, if_true, if_false, reduceIte, Bool.false_eq_true, Bool.not_true, Bool.not_false, isSs, isSt, isTt, isTs, isIi, isBi, Nat.reduceLT, decide_true, decide_false, mSetF, clsAt, fldS, muOf, Sl.get, Sl.put, putD, mSetFs, fldsT, fldsS, allS, mMake, mMakeL, mCm, fnN, mJs, itSeq, mMeth, beq_self_eq_true, and_self, List.isEmpty_nil, List.isEmpty_cons, Option.map, big, Nat.reduceLeDiff, Nat.zero_le, Nat.le_refl]
    · obtain ⟨s3', s4', s5', ih⟩ := sur_loop t suf (pre ++ [true]) b (acc ++ [stO (r, true, a)]) (.val (.int (pre.length : Nat))) (.val (.int 1)) (.val (T.node r a b).obj) h0' h1' h2 rfl rfl rfl (by simp; omega)
      refine ⟨s3', s4', s5', ?_⟩
      rw [el, ← ea] at ih
      have e : acc ++ List.map stO ((T.node r a b).down (true :: suf)) = acc ++ [stO (r, true, a)] ++ (b.down suf).map stO := by simp [T.down]
      rw [e]
      simp only [stO, bD, bI] at ih
      generalize (T.node r a b).obj = on at *
      generalize t.obj = ot at *
      generalize pD (pre ++ true :: suf) = pp at *
      generalize pD pre = pq at *
      simp only [List.map_cons, enumL, stO, bD, bI, mLoop, mBehind, append_eq, mSl, mPart, mNo, asI, n3, n4, n5, i1, e1, e2, e3, e4, at1, at0, c, int2_int, Int.reduceSub, ih, noX, fnSem, en0, pre0, ioOf, mSeq, mIfS, mRet, mRetN, mAsg, mAsgO, mExpr, mNext, mDead, mTest, mAnd, mOr, mNot, mIf, mAndV, mOrV, mNotV, notD, mChain, mOp1, mOp2, mC, mVar, mCall, mCons, mNil, mTup, mLst, mStar, mCallV, mCallD, mPar, mAsgG, gT, gTs, gN, setV, nio_v, nio_n, nio_o, nxt, Rs.bind, lift, asB, one1, two1, ixD, addD, subI, lenT, lenL, lenSc, tupD, intD, eq0, dI, dB, dS, List.length_cons, List.length_nil, List.map_cons, List.map_nil, List.append_nil, List.nil_append, List.cons_append, List.getElem?_cons_zero, List.getElem?_cons_succ, List.set_cons_zero, List.set_cons_succ, List.replicate, Option.bind_some, Option.map_some, Option.bind, Nat.zero_add, Nat.add_zero, Nat.reduceAdd, Nat.reduceSub, Nat.reduceEqDiff, if_true, if_false, reduceIte, Bool.false_eq_true, Bool.not_true, Bool.not_false, isSs, isSt, isTt, isTs, isIi, isBi, Nat.reduceLT, decide_true, decide_false, mSetF, clsAt, fldS, muOf, Sl.get, Sl.put, putD, mSetFs, fldsT, fldsS, allS, mMake, mMakeL, mCm, fnN, mJs, itSeq, mMeth, beq_self_eq_true, and_self, List.isEmpty_nil, List.isEmpty_cons, Option.map, big, Nat.reduceLeDiff, Nat.zero_le, Nat.le_refl]
theorem sur_ok (t : T) (p : List Bool) (h : t.ok p) (ht : t.leaves ≤ 60) (hl : p.length ≤ 60) : fn_surrounding_at none [t.obj, pD p] = .ret (.tup ((t.up p).map stO), false) none := by
  have e0 : t.at [] = t := by cases t <;> rfl
  obtain ⟨s3, s4, s5, e⟩ := sur_loop t p [] t [] .non .non .non h e0 h rfl rfl rfl (by simp; omega)
  simp only [List.nil_append, List.length_nil] at e
  have r1 : fn_require_a_building none [t.obj] = .ret (.non, false) none := by simp only [fn_require_a_building, m_require_a_building, is_obj, noX, fnSem, en0, pre0, ioOf, mSeq, mIfS, mRet, mRetN, mAsg, mAsgO, mExpr, mNext, mDead, mTest, mAnd, mOr, mNot, mIf, mAndV, mOrV, mNotV, notD, mChain, mOp1, mOp2, mC, mVar, mCall, mCons, mNil, mTup, mLst, mStar, mCallV, mCallD, mPar, mAsgG, gT, gTs, gN, setV, notIo, nxt, Rs.bind, lift, asB, one1, two1, ixD, addD, subD, lenT, lenL, lenSc, tupD, intD, eq0, dI, dB, dS, List.length_cons, List.length_nil, List.map_cons, List.map_nil, List.append_nil, List.nil_append, List.cons_append, List.getElem?_cons_zero, List.getElem?_cons_succ, List.set_cons_zero, List.set_cons_succ, List.replicate, Option.bind_some, Option.map_some, Option.bind, Nat.zero_add, Nat.add_zero, Nat.reduceAdd, Nat.reduceSub, Nat.reduceEqDiff, if_true, if_false, reduceIte, Bool.false_eq_true, Bool.not_true, Bool.not_false, isSs, isSt, isTt, isTs, isIi, isBi, Nat.reduceLT, decide_true, decide_false, mSetF, clsAt, fldS, muOf, Sl.get, Sl.put, putD, mSetFs, fldsT, fldsS, allS, mMake, mMakeL, mCm, fnN, mJs, itSeq, mMeth, beq_self_eq_true, and_self, List.isEmpty_nil, List.isEmpty_cons, Option.map, big, Nat.reduceLeDiff, Nat.zero_le, Nat.le_refl]
  have run := lc_run (j := 4) (me := (mCallV fn_is_count (mCons (mVar 4) mNil))) (f := fun _ => (.bl true, false)) (p.map bD) [] [.val t.obj, .val (pD p), .non, .non, .non, .non] (by simp [big]; omega) rfl rfl (fun d hd => by
    obtain ⟨b, _, rfl⟩ := List.mem_map.mp hd
    have i := int1_ok b
    simp only [i, noX, fnSem, en0, pre0, ioOf, mSeq, mIfS, mRet, mRetN, mAsg, mAsgO, mExpr, mNext, mDead, mTest, mAnd, mOr, mNot, mIf, mAndV, mOrV, mNotV, notD, mChain, mOp1, mOp2, mC, mVar, mCall, mCons, mNil, mTup, mLst, mStar, mCallV, mCallD, mPar, mAsgG, gT, gTs, gN, setV, notIo, nxt, Rs.bind, lift, asB, one1, two1, ixD, addD, subD, lenT, lenL, lenSc, tupD, intD, eq0, dI, dB, dS, List.length_cons, List.length_nil, List.map_cons, List.map_nil, List.append_nil, List.nil_append, List.cons_append, List.getElem?_cons_zero, List.getElem?_cons_succ, List.set_cons_zero, List.set_cons_succ, List.replicate, Option.bind_some, Option.map_some, Option.bind, Nat.zero_add, Nat.add_zero, Nat.reduceAdd, Nat.reduceSub, Nat.reduceEqDiff, if_true, if_false, reduceIte, Bool.false_eq_true, Bool.not_true, Bool.not_false, isSs, isSt, isTt, isTs, isIi, isBi, Nat.reduceLT, decide_true, decide_false, mSetF, clsAt, fldS, muOf, Sl.get, Sl.put, putD, mSetFs, fldsT, fldsS, allS, mMake, mMakeL, mCm, fnN, mJs, itSeq, mMeth, beq_self_eq_true, and_self, List.isEmpty_nil, List.isEmpty_cons, Option.map, big, Nat.reduceLeDiff, Nat.zero_le, Nat.le_refl])
  rw [List.nil_append] at run
  have c : c_surrounding_at_0 [.val t.obj, .val (pD p), .non, .non, .non, .non] = .ok (.lst ((p.map bD).map fun _ => .bl true), true) [.val t.obj, .val (pD p), .non, .non, .non, .non] := by
    unfold c_surrounding_at_0 mLc
    have hi : (mIt itT (mVar 1)) [.val t.obj, .val (pD p), .non, .non, .non, .non] = .ok (p.map bD) [.val t.obj, .val (pD p), .non, .non, .non, .non] := by simp only [pD, mIt, itT, noX, fnSem, en0, pre0, ioOf, mSeq, mIfS, mRet, mRetN, mAsg, mAsgO, mExpr, mNext, mDead, mTest, mAnd, mOr, mNot, mIf, mAndV, mOrV, mNotV, notD, mChain, mOp1, mOp2, mC, mVar, mCall, mCons, mNil, mTup, mLst, mStar, mCallV, mCallD, mPar, mAsgG, gT, gTs, gN, setV, notIo, nxt, Rs.bind, lift, asB, one1, two1, ixD, addD, subD, lenT, lenL, lenSc, tupD, intD, eq0, dI, dB, dS, List.length_cons, List.length_nil, List.map_cons, List.map_nil, List.append_nil, List.nil_append, List.cons_append, List.getElem?_cons_zero, List.getElem?_cons_succ, List.set_cons_zero, List.set_cons_succ, List.replicate, Option.bind_some, Option.map_some, Option.bind, Nat.zero_add, Nat.add_zero, Nat.reduceAdd, Nat.reduceSub, Nat.reduceEqDiff, if_true, if_false, reduceIte, Bool.false_eq_true, Bool.not_true, Bool.not_false, isSs, isSt, isTt, isTs, isIi, isBi, Nat.reduceLT, decide_true, decide_false, mSetF, clsAt, fldS, muOf, Sl.get, Sl.put, putD, mSetFs, fldsT, fldsS, allS, mMake, mMakeL, mCm, fnN, mJs, itSeq, mMeth, beq_self_eq_true, and_self, List.isEmpty_nil, List.isEmpty_cons, Option.map, big, Nat.reduceLeDiff, Nat.zero_le, Nat.le_refl]
    rw [hi]
    show Rs.bind (mLcLoop _ _ _ _ _ _ (wipeE _ [4])) _ = _
    have hw : wipeE [Sl.val t.obj, .val (pD p), .non, .non, .non, .non] [4] = [.val t.obj, .val (pD p), .non, .non, .non, .non] := rfl
    rw [hw, run]
    rfl
  have a : allD false (.lst ((p.map bD).map fun _ => .bl true)) = some (dB true) := by
    show (blsD _).map _ = _
    rw [bls_map (fun _ => true)]
    have h : ((p.map bD).map fun _ => true).all id = true := List.all_eq_true.mpr fun x hx => by
      obtain ⟨_, _, rfl⟩ := List.mem_map.mp hx
      rfl
    simp only [Option.map_some, Bool.false_eq_true, if_false, h]
  have pp := paths_prop t ht
  have ni := notIn_ok t.paths p ((mem_paths t p).mpr h)
  have tt : isD 1 ans_tuple (pD p) = some (dB true) := rfl
  have lp : p_surrounding_at_1 [.val t.obj, .val (pD p), .own (.lst []), .non, .non, .non] = .ok .nx [.val t.obj, .val (pD p), .own (.lst ((t.down p).map stO)), s3, s4, s5] := by
    unfold p_surrounding_at_1 mFor
    have hi : (mItA itE (mCons (mVar 1) mNil)) [.val t.obj, .val (pD p), .own (.lst []), .non, .non, .non] = .ok (enumL 0 (p.map bD)) [.val t.obj, .val (pD p), .own (.lst []), .non, .non, .non] := by simp only [pD, mItA, itE, noX, fnSem, en0, pre0, ioOf, mSeq, mIfS, mRet, mRetN, mAsg, mAsgO, mExpr, mNext, mDead, mTest, mAnd, mOr, mNot, mIf, mAndV, mOrV, mNotV, notD, mChain, mOp1, mOp2, mC, mVar, mCall, mCons, mNil, mTup, mLst, mStar, mCallV, mCallD, mPar, mAsgG, gT, gTs, gN, setV, notIo, nxt, Rs.bind, lift, asB, one1, two1, ixD, addD, subD, lenT, lenL, lenSc, tupD, intD, eq0, dI, dB, dS, List.length_cons, List.length_nil, List.map_cons, List.map_nil, List.append_nil, List.nil_append, List.cons_append, List.getElem?_cons_zero, List.getElem?_cons_succ, List.set_cons_zero, List.set_cons_succ, List.replicate, Option.bind_some, Option.map_some, Option.bind, Nat.zero_add, Nat.add_zero, Nat.reduceAdd, Nat.reduceSub, Nat.reduceEqDiff, if_true, if_false, reduceIte, Bool.false_eq_true, Bool.not_true, Bool.not_false, isSs, isSt, isTt, isTs, isIi, isBi, Nat.reduceLT, decide_true, decide_false, mSetF, clsAt, fldS, muOf, Sl.get, Sl.put, putD, mSetFs, fldsT, fldsS, allS, mMake, mMakeL, mCm, fnN, mJs, itSeq, mMeth, beq_self_eq_true, and_self, List.isEmpty_nil, List.isEmpty_cons, Option.map, big, Nat.reduceLeDiff, Nat.zero_le, Nat.le_refl]
    rw [hi]
    exact e
  have rv : ((t.down p).map stO).reverse = (t.up p).map stO := by rw [← List.map_reverse, up_down]
  generalize t.obj = ot at *
  generalize pD p = pq at *
  simp only [fn_surrounding_at, m_surrounding_at, mAsgO, setO, toMu, mRevO, tt, r1, c, a, pp, ni, lp, rv, noX, fnSem, en0, pre0, ioOf, mSeq, mIfS, mRet, mRetN, mAsg, mAsgO, mExpr, mNext, mDead, mTest, mAnd, mOr, mNot, mIf, mAndV, mOrV, mNotV, notD, mChain, mOp1, mOp2, mC, mVar, mCall, mCons, mNil, mTup, mLst, mStar, mCallV, mCallD, mPar, mAsgG, gT, gTs, gN, setV, notIo, nxt, Rs.bind, lift, asB, one1, two1, ixD, addD, subD, lenT, lenL, lenSc, tupD, intD, eq0, dI, dB, dS, List.length_cons, List.length_nil, List.map_cons, List.map_nil, List.append_nil, List.nil_append, List.cons_append, List.getElem?_cons_zero, List.getElem?_cons_succ, List.set_cons_zero, List.set_cons_succ, List.replicate, Option.bind_some, Option.map_some, Option.bind, Nat.zero_add, Nat.add_zero, Nat.reduceAdd, Nat.reduceSub, Nat.reduceEqDiff, if_true, if_false, reduceIte, Bool.false_eq_true, Bool.not_true, Bool.not_false, isSs, isSt, isTt, isTs, isIi, isBi, Nat.reduceLT, decide_true, decide_false, mSetF, clsAt, fldS, muOf, Sl.get, Sl.put, putD, mSetFs, fldsT, fldsS, allS, mMake, mMakeL, mCm, fnN, mJs, itSeq, mMeth, beq_self_eq_true, and_self, List.isEmpty_nil, List.isEmpty_cons, Option.map, big, Nat.reduceLeDiff, Nat.zero_le, Nat.le_refl]
/-! ### comparison of surroundings -/
theorem eqX_st (n : Nat) (s : Stp) : eqX 0 fn_Building_uequ (n + 2) (stO s) (stO s) = true := by
  obtain ⟨r, i, o⟩ := s
  have e := eq_ok o o
  rw [decide_eq_true rfl] at e
  have h : eqX 0 fn_Building_uequ (n + 1) o.obj o.obj = true := by
    have ob := obj_eq o
    generalize (match o with | .leaf _ => D.tup [] | .node _ a b => .tup [a.obj, b.obj]) = z at ob
    rw [ob] at e ⊢
    simp only [eqX, fnN, e, isTr, beq_self_eq_true, Bool.and_self]
  show eqXL (eqX 0 fn_Building_uequ (n + 1)) [.str (wrd r), .int (bI i), o.obj] [.str (wrd r), .int (bI i), o.obj] = true
  simp only [eqXL, h, eqX, eqF, beq_self_eq_true, Bool.and_self]
theorem eqXL_st : ∀ ss : List Stp, eqXL (eqX 0 fn_Building_uequ 3) (ss.map stO) (ss.map stO) = true
  | [] => rfl
  | s :: ss => by simp only [List.map_cons, eqXL, eqX_st 1, eqXL_st ss, Bool.and_self]
theorem toPy_obj (t : T) : toPy t.obj = none := by rw [obj_eq]; simp only [toPy]
theorem toPy_st (s : Stp) : toPy (stO s) = none := by
  obtain ⟨r, i, o⟩ := s
  simp only [stO, bD, toPy, toPyL, toPy_obj, Option.bind_none, Option.bind_some, Option.map_none]
theorem neX_st (ss : List Stp) : orD neD (neXD 0 fn_Building_uequ 3) (.tup (ss.map stO)) (.tup (ss.map stO)) = some (dB false) := by
  cases ss with
  | nil => rfl
  | cons s ss =>
    have e1 : neD (.tup ((s :: ss).map stO)) (.tup ((s :: ss).map stO)) = none := by
      unfold neD pyOk
      simp only [List.map_cons, toPy, toPyL, toPy_st, Option.bind_none, Option.map_none]
    unfold orD
    rw [e1]
    show neXD 0 fn_Building_uequ 3 _ _ = _
    unfold neXD eqXT'
    rw [if_pos (eqXL_st (s :: ss))]
/-! ### drawn surroundings -/
theorem DiceK.mono {k k' : Nat} {m : Mu} (h : DiceK k m) (e : k ≤ k') : DiceK k' m := by
  obtain ⟨a, b, c, rfl, q1, q2, q3, q4, q5, q6⟩ := h
  exact ⟨a, b, c, rfl, q1, q2, q3, q4, q5, by omega⟩
theorem pick_wd (m : Mu) (k : Nat) (hk : k ≤ 900000) (hd : DiceK k m) : ∃ r m', fn_l_pick (some m) [.lst [.str "row", .str "side"]] = .ret (.str (wrd r), false) (some m') ∧ DiceK (k + 1) m' := by
  obtain ⟨d, m', hm, e, dk⟩ := pick_ok m k [.str "row", .str "side"] (by simp) (by simp) (by omega) hd
  simp only [List.mem_cons, List.not_mem_nil, or_false] at hm
  rcases hm with rfl | rfl
  · exact ⟨true, m', e, dk⟩
  · exact ⟨false, m', e, dk⟩
theorem steps_loop (L : Nat) (hL : 1 ≤ L) (hL2 : L ≤ 10) (x1 : D) : ∀ (n s : Nat) (m : Mu) (k : Nat) (ss : List Stp) (s4 s5 : Sl), k + 100 * n ≤ 800000 → DiceK k m → ss.length + n ≤ 100 → (∀ s ∈ ss, s.2.2.leaves ≤ L) → nIo s4 = true → nIo s5 = true → ∃ (m' : Mu) (ss' : List Stp) (s4' s5' : Sl), DiceK (k + 100 * n) m' ∧ ss'.length = ss.length + n ∧ (∀ s ∈ ss', s.2.2.leaves ≤ L) ∧
    mLoop (gN 4) (mSeq (mAsg 5 (mCallD fn_l_pick 0 (mCons (mLst (mCons (mC (.str "row")) (mCons (mC (.str "side")) mNil))) mNil)))
    (mExpr (mAppend 3 (mCons (mTup (mCons (mVar 5) (mCons (mCallD fn_l_roll 0 (mCons (mC (.int 2)) mNil)) (mCons (mCallD (fn_l_building 64) 0 (mCons (mOp2 addD (mC (.int 1)) (mCallD fn_l_roll 0 (mCons (mVar 2) mNil))) mNil)) mNil)))) mNil)))) (rgL s n) [.io m, .val x1, .val (.int L), .own (.lst (ss.map stP)), s4, s5] = .ok .nx [.io m', .val x1, .val (.int L), .own (.lst (ss'.map stP)), s4', s5']
  | 0, s, m, k, ss, s4, s5, _, hd, _, hs, _, _ => ⟨m, ss, s4, s5, hd, rfl, hs, by simp only [rgL, mLoop]⟩
  | n + 1, s, m, k, ss, s4, s5, hk, hd, hn, hs, h4, h5 => by
    obtain ⟨r, m1, e1, d1⟩ := pick_wd m k (by omega) hd
    obtain ⟨i, m2, e2, i0, i1, d2⟩ := roll_ok m1 (k + 1) 2 (by decide) (by decide) (by omega) d1
    obtain ⟨c, m3, e3, c0, c1, d3⟩ := roll_ok m2 (k + 1 + 1) (L : Int) (by omega) (by omega) (by omega) d2
    obtain ⟨c, hc⟩ := Int.eq_ofNat_of_zero_le c0
    subst hc
    obtain ⟨o, m4, e4, lo, d4⟩ := building_ok 64 (1 + c) (k + 1 + 1 + 1) m3 (by omega) (by omega) (by omega) (by omega) d3
    have cc : ((1 + c : Nat) : Int) = 1 + (c : Int) := by omega
    rw [cc] at e4
    obtain ⟨b, hb⟩ : ∃ b, i = bI b := by
      rcases (show i = 0 ∨ i = 1 by omega) with rfl | rfl
      · exact ⟨false, rfl⟩
      · exact ⟨true, rfl⟩
    subst hb
    have d5 : DiceK (k + 100) m4 := d4.mono (by omega)
    obtain ⟨m', ss', s4', s5', a1, a2, a3, ih⟩ := steps_loop L hL hL2 x1 n (s + 1) m4 (k + 100) (ss ++ [(r, b, o)]) (.val (.int s)) (.val (.str (wrd r))) (by omega) d5 (by simp; omega) (fun z hz => by
      simp only [List.mem_append, List.mem_singleton] at hz
      rcases hz with hz | rfl
      · exact hs z hz
      · simp only; omega) rfl rfl
    refine ⟨m', ss', s4', s5', a1.mono (by omega), by rw [a2]; simp; omega, a3, ?_⟩
    have n4 : notIo (some s4) = true := h4
    have n5 : notIo (some s5) = true := h5
    have cl : ss.length < 16777216 := by omega
    have sc : ((s : Int) + 1) = ((s + 1 : Nat) : Int) := by omega
    simp only [List.map_append, List.map_cons, List.map_nil, stP, bD] at ih
    simp only [rgL, mLoop, mBehind, append_eq, n4, n5, stP, bD, e1, e2, e3, e4, cl, sc, ih, int2_int, List.length_map, noX, fnSem, en0, pre0, ioOf, mSeq, mIfS, mRet, mRetN, mAsg, mAsgO, mExpr, mNext, mDead, mTest, mAnd, mOr, mNot, mIf, mAndV, mOrV, mNotV, notD, mChain, mOp1, mOp2, mC, mVar, mCall, mCons, mNil, mTup, mLst, mStar, mCallV, mCallD, mPar, mAsgG, gT, gTs, gN, setV, nio_v, nio_n, nio_o, nxt, Rs.bind, lift, asB, one1, two1, ixD, addD, subI, lenT, lenL, lenSc, tupD, intD, eq0, dI, dB, dS, List.length_cons, List.length_nil, List.map_cons, List.map_nil, List.append_nil, List.nil_append, List.cons_append, List.getElem?_cons_zero, List.getElem?_cons_succ, List.set_cons_zero, List.set_cons_succ, List.replicate, Option.bind_some, Option.map_some, Option.bind, Nat.zero_add, Nat.add_zero, Nat.reduceAdd, Nat.reduceSub, Nat.reduceEqDiff, if_true, if_false, reduceIte, Bool.false_eq_true, Bool.not_true, Bool.not_false, isSs, isSt, isTt, isTs, isIi, isBi, Nat.reduceLT, decide_true, decide_false, mSetF, clsAt, fldS, muOf, Sl.get, Sl.put, putD, mSetFs, fldsT, fldsS, allS, mMake, mMakeL, mCm, fnN, mJs, itSeq, mMeth, beq_self_eq_true, and_self, List.isEmpty_nil, List.isEmpty_cons, Option.map, big, Nat.reduceLeDiff, Nat.zero_le, Nat.le_refl]
end PM.G

namespace PM.G
open PySem PySem.Spec L2 PM
open PySem.PyData (strOk)
theorem steps_ok (many L : Nat) (hm : many ≤ 10) (hL : 1 ≤ L) (hL2 : L ≤ 10) (m : Mu) (k : Nat) (hk : k ≤ 700000) (hd : DiceK k m) : ∃ (m' : Mu) (ss : List Stp), fn_l_steps (some m) [.int many, .int L] = .ret (.lst (ss.map stP), true) (some m') ∧ DiceK (k + 2000) m' ∧ ss.length ≤ many ∧ ∀ s ∈ ss, s.2.2.leaves ≤ L := by
  obtain ⟨r, m1, e1, r0, r1, d1⟩ := roll_ok m k ((many : Int) + 1) (by omega) (by omega) (by omega) hd
  obtain ⟨n, hn⟩ : ∃ n : Nat, n = r.toNat := ⟨_, rfl⟩
  have hn1 : n ≤ many := by omega
  have e3 := rng1_ok r r0 (by omega)
  rw [← hn] at e3
  clear hn
  obtain ⟨m', ss, s4, s5, a1, a2, a3, lp⟩ := steps_loop L hL hL2 (.int many) n 0 m1 (k + 1) [] .non .non (by omega) d1 (by simp; omega) (by simp) rfl rfl
  refine ⟨m', ss, ?_, a1.mono (by omega), by rw [a2]; simp; omega, a3⟩
  simp only [List.map_nil, Int.natCast_zero] at lp
  have pl : p_l_steps_0 [.io m, .val (.int many), .val (.int L), .own (.lst []), .non, .non] = .ok .nx [.io m', .val (.int many), .val (.int L), .own (.lst (ss.map stP)), s4, s5] := by
    unfold p_l_steps_0 mFor
    have hi : (mItA rng1 (mCons (mCallD fn_l_roll 0 (mCons (mOp2 addD (mVar 1) (mC (.int 1))) mNil)) mNil)) [.io m, .val (.int many), .val (.int L), .own (.lst []), .non, .non] = .ok (rgL 0 n) [.io m1, .val (.int many), .val (.int L), .own (.lst []), .non, .non] := by simp only [mItA, e1, e3, noX, fnSem, en0, pre0, ioOf, mSeq, mIfS, mRet, mRetN, mAsg, mAsgO, mExpr, mNext, mDead, mTest, mAnd, mOr, mNot, mIf, mAndV, mOrV, mNotV, notD, mChain, mOp1, mOp2, mC, mVar, mCall, mCons, mNil, mTup, mLst, mStar, mCallV, mCallD, mPar, mAsgG, gT, gTs, gN, setV, notIo, nxt, Rs.bind, lift, asB, one1, two1, ixD, addD, subD, lenT, lenL, lenSc, tupD, intD, eq0, dI, dB, dS, List.length_cons, List.length_nil, List.map_cons, List.map_nil, List.append_nil, List.nil_append, List.cons_append, List.getElem?_cons_zero, List.getElem?_cons_succ, List.set_cons_zero, List.set_cons_succ, List.replicate, Option.bind_some, Option.map_some, Option.bind, Nat.zero_add, Nat.add_zero, Nat.reduceAdd, Nat.reduceSub, Nat.reduceEqDiff, if_true, if_false, reduceIte, Bool.false_eq_true, Bool.not_true, Bool.not_false, isSs, isSt, isTt, isTs, isIi, isBi, Nat.reduceLT, decide_true, decide_false, mSetF, clsAt, fldS, muOf, Sl.get, Sl.put, putD, mSetFs, fldsT, fldsS, allS, mMake, mMakeL, mCm, fnN, mJs, itSeq, mMeth, beq_self_eq_true, and_self, List.isEmpty_nil, List.isEmpty_cons, Option.map, big, Nat.reduceLeDiff, Nat.zero_le, Nat.le_refl]
    rw [hi]
    exact lp
  simp only [fn_l_steps, m_l_steps, mAsgO, setO, toMu, mRetO, pl, noX, fnSem, en0, pre0, ioOf, mSeq, mIfS, mRet, mRetN, mAsg, mAsgO, mExpr, mNext, mDead, mTest, mAnd, mOr, mNot, mIf, mAndV, mOrV, mNotV, notD, mChain, mOp1, mOp2, mC, mVar, mCall, mCons, mNil, mTup, mLst, mStar, mCallV, mCallD, mPar, mAsgG, gT, gTs, gN, setV, notIo, nxt, Rs.bind, lift, asB, one1, two1, ixD, addD, subD, lenT, lenL, lenSc, tupD, intD, eq0, dI, dB, dS, List.length_cons, List.length_nil, List.map_cons, List.map_nil, List.append_nil, List.nil_append, List.cons_append, List.getElem?_cons_zero, List.getElem?_cons_succ, List.set_cons_zero, List.set_cons_succ, List.replicate, Option.bind_some, Option.map_some, Option.bind, Nat.zero_add, Nat.add_zero, Nat.reduceAdd, Nat.reduceSub, Nat.reduceEqDiff, if_true, if_false, reduceIte, Bool.false_eq_true, Bool.not_true, Bool.not_false, isSs, isSt, isTt, isTs, isIi, isBi, Nat.reduceLT, decide_true, decide_false, mSetF, clsAt, fldS, muOf, Sl.get, Sl.put, putD, mSetFs, fldsT, fldsS, allS, mMake, mMakeL, mCm, fnN, mJs, itSeq, mMeth, beq_self_eq_true, and_self, List.isEmpty_nil, List.isEmpty_cons, Option.map, big, Nat.reduceLeDiff, Nat.zero_le, Nat.le_refl]
end PM.G

namespace PM.G
open PySem PySem.Spec L2 PM
open PySem.PyData (strOk)
/-! ### values near surroundings -/
theorem neI (i : Int) : neD (.int i) (.int i) = some (dB false) := by
  show some (dB (!(i == i))) = _
  simp
theorem cn2 : fn_is_count none [.int 2] = .ret (.bl true, false) none := by rfl
theorem cn0 : fn_is_count none [.int 0] = .ret (.bl true, false) none := by rfl
theorem cnT : fn_is_count none [.bl true] = .ret (.bl false, false) none := by rfl
theorem cnM : fn_is_count none [.int (-1)] = .ret (.bl false, false) none := by rfl
theorem cnN : fn_is_count none [.non] = .ret (.bl false, false) none := by rfl
theorem w_row : inA true (.str "row") (.tup [.str "row", .str "side"]) = some (dB false) := in_wd true
theorem w_side : inA true (.str "side") (.tup [.str "row", .str "side"]) = some (dB false) := in_wd false
theorem w_tie : inA true (.str "tie") (.tup [.str "row", .str "side"]) = some (dB true) := by
  unfold inA
  rw [pyOk_str (by decide +kernel)]
  simp only [Option.bind_some, toPy, toPyL, Option.map_some]
  rw [if_pos (by decide +kernel)]
  have : (List.any [PyData.str "row", PyData.str "side"] fun z => PyData.eqv z (.str "tie")) = false := by decide +kernel
  rw [this]
  rfl
theorem gt21 : gtI (.int 2) (.int 1) = some (dB true) := rfl
theorem gt01 : gtI (.int 0) (.int 1) = some (dB false) := rfl
theorem noB : isD 1 ans_Building (.str "tie") = some (dB false) := rfl
theorem o1 : fn_is_step none [.non] = .ret (.bl false, false) none := by rfl
theorem o2 : fn_is_step none [.tup [.str "row", .int 0]] = .ret (.bl false, false) none := by rfl
theorem o3 : fn_is_step none [.tup [.str "row", .int 2, (T.obj (T.leaf true))]] = .ret (.bl false, false) none := by simp only [fn_is_step, m_is_step, ne33, z3, w_row, w_side, w_tie, cn2, cn0, cnT, cnM, cnN, gt21, gt01, noB, is_obj, noX, fnSem, en0, pre0, ioOf, mSeq, mIfS, mRet, mRetN, mAsg, mAsgO, mExpr, mNext, mDead, mTest, mAnd, mOr, mNot, mIf, mAndV, mOrV, mNotV, notD, mChain, mOp1, mOp2, mC, mVar, mCall, mCons, mNil, mTup, mLst, mStar, mCallV, mCallD, mPar, mAsgG, gT, gTs, gN, setV, notIo, nxt, Rs.bind, lift, asB, one1, two1, ixD, addD, subD, lenT, lenL, lenSc, tupD, intD, eq0, dI, dB, dS, List.length_cons, List.length_nil, List.map_cons, List.map_nil, List.append_nil, List.nil_append, List.cons_append, List.getElem?_cons_zero, List.getElem?_cons_succ, List.set_cons_zero, List.set_cons_succ, List.replicate, Option.bind_some, Option.map_some, Option.bind, Nat.zero_add, Nat.add_zero, Nat.reduceAdd, Nat.reduceSub, Nat.reduceEqDiff, if_true, if_false, reduceIte, Bool.false_eq_true, Bool.not_true, Bool.not_false, isSs, isSt, isTt, isTs, isIi, isBi, Nat.reduceLT, decide_true, decide_false, mSetF, clsAt, fldS, muOf, Sl.get, Sl.put, putD, mSetFs, fldsT, fldsS, allS, mMake, mMakeL, mCm, fnN, mJs, itSeq, mMeth, beq_self_eq_true, and_self, List.isEmpty_nil, List.isEmpty_cons, Option.map, big, Nat.reduceLeDiff, Nat.zero_le, Nat.le_refl]
theorem o4 : fn_is_step none [.tup [.str "tie", .int 0, (T.obj (T.leaf true))]] = .ret (.bl false, false) none := by simp only [fn_is_step, m_is_step, ne33, z3, w_row, w_side, w_tie, cn2, cn0, cnT, cnM, cnN, gt21, gt01, noB, is_obj, noX, fnSem, en0, pre0, ioOf, mSeq, mIfS, mRet, mRetN, mAsg, mAsgO, mExpr, mNext, mDead, mTest, mAnd, mOr, mNot, mIf, mAndV, mOrV, mNotV, notD, mChain, mOp1, mOp2, mC, mVar, mCall, mCons, mNil, mTup, mLst, mStar, mCallV, mCallD, mPar, mAsgG, gT, gTs, gN, setV, notIo, nxt, Rs.bind, lift, asB, one1, two1, ixD, addD, subD, lenT, lenL, lenSc, tupD, intD, eq0, dI, dB, dS, List.length_cons, List.length_nil, List.map_cons, List.map_nil, List.append_nil, List.nil_append, List.cons_append, List.getElem?_cons_zero, List.getElem?_cons_succ, List.set_cons_zero, List.set_cons_succ, List.replicate, Option.bind_some, Option.map_some, Option.bind, Nat.zero_add, Nat.add_zero, Nat.reduceAdd, Nat.reduceSub, Nat.reduceEqDiff, if_true, if_false, reduceIte, Bool.false_eq_true, Bool.not_true, Bool.not_false, isSs, isSt, isTt, isTs, isIi, isBi, Nat.reduceLT, decide_true, decide_false, mSetF, clsAt, fldS, muOf, Sl.get, Sl.put, putD, mSetFs, fldsT, fldsS, allS, mMake, mMakeL, mCm, fnN, mJs, itSeq, mMeth, beq_self_eq_true, and_self, List.isEmpty_nil, List.isEmpty_cons, Option.map, big, Nat.reduceLeDiff, Nat.zero_le, Nat.le_refl]
theorem o5 : fn_is_step none [.tup [.str "row", .bl true, (T.obj (T.leaf true))]] = .ret (.bl false, false) none := by simp only [fn_is_step, m_is_step, ne33, z3, w_row, w_side, w_tie, cn2, cn0, cnT, cnM, cnN, gt21, gt01, noB, is_obj, noX, fnSem, en0, pre0, ioOf, mSeq, mIfS, mRet, mRetN, mAsg, mAsgO, mExpr, mNext, mDead, mTest, mAnd, mOr, mNot, mIf, mAndV, mOrV, mNotV, notD, mChain, mOp1, mOp2, mC, mVar, mCall, mCons, mNil, mTup, mLst, mStar, mCallV, mCallD, mPar, mAsgG, gT, gTs, gN, setV, notIo, nxt, Rs.bind, lift, asB, one1, two1, ixD, addD, subD, lenT, lenL, lenSc, tupD, intD, eq0, dI, dB, dS, List.length_cons, List.length_nil, List.map_cons, List.map_nil, List.append_nil, List.nil_append, List.cons_append, List.getElem?_cons_zero, List.getElem?_cons_succ, List.set_cons_zero, List.set_cons_succ, List.replicate, Option.bind_some, Option.map_some, Option.bind, Nat.zero_add, Nat.add_zero, Nat.reduceAdd, Nat.reduceSub, Nat.reduceEqDiff, if_true, if_false, reduceIte, Bool.false_eq_true, Bool.not_true, Bool.not_false, isSs, isSt, isTt, isTs, isIi, isBi, Nat.reduceLT, decide_true, decide_false, mSetF, clsAt, fldS, muOf, Sl.get, Sl.put, putD, mSetFs, fldsT, fldsS, allS, mMake, mMakeL, mCm, fnN, mJs, itSeq, mMeth, beq_self_eq_true, and_self, List.isEmpty_nil, List.isEmpty_cons, Option.map, big, Nat.reduceLeDiff, Nat.zero_le, Nat.le_refl]
theorem o6 : fn_is_step none [.tup [.str "side", .int (-1), (T.obj (T.leaf true))]] = .ret (.bl false, false) none := by simp only [fn_is_step, m_is_step, ne33, z3, w_row, w_side, w_tie, cn2, cn0, cnT, cnM, cnN, gt21, gt01, noB, is_obj, noX, fnSem, en0, pre0, ioOf, mSeq, mIfS, mRet, mRetN, mAsg, mAsgO, mExpr, mNext, mDead, mTest, mAnd, mOr, mNot, mIf, mAndV, mOrV, mNotV, notD, mChain, mOp1, mOp2, mC, mVar, mCall, mCons, mNil, mTup, mLst, mStar, mCallV, mCallD, mPar, mAsgG, gT, gTs, gN, setV, notIo, nxt, Rs.bind, lift, asB, one1, two1, ixD, addD, subD, lenT, lenL, lenSc, tupD, intD, eq0, dI, dB, dS, List.length_cons, List.length_nil, List.map_cons, List.map_nil, List.append_nil, List.nil_append, List.cons_append, List.getElem?_cons_zero, List.getElem?_cons_succ, List.set_cons_zero, List.set_cons_succ, List.replicate, Option.bind_some, Option.map_some, Option.bind, Nat.zero_add, Nat.add_zero, Nat.reduceAdd, Nat.reduceSub, Nat.reduceEqDiff, if_true, if_false, reduceIte, Bool.false_eq_true, Bool.not_true, Bool.not_false, isSs, isSt, isTt, isTs, isIi, isBi, Nat.reduceLT, decide_true, decide_false, mSetF, clsAt, fldS, muOf, Sl.get, Sl.put, putD, mSetFs, fldsT, fldsS, allS, mMake, mMakeL, mCm, fnN, mJs, itSeq, mMeth, beq_self_eq_true, and_self, List.isEmpty_nil, List.isEmpty_cons, Option.map, big, Nat.reduceLeDiff, Nat.zero_le, Nat.le_refl]
theorem o7 : fn_is_step none [.lst [.str "row", .int 0, (T.obj (T.leaf true))]] = .ret (.bl false, false) none := by rfl
theorem o8 : fn_is_step none [.tup [.str "row", .int 0, .str "tie"]] = .ret (.bl false, false) none := by simp only [fn_is_step, m_is_step, ne33, z3, w_row, w_side, w_tie, cn2, cn0, cnT, cnM, cnN, gt21, gt01, noB, is_obj, noX, fnSem, en0, pre0, ioOf, mSeq, mIfS, mRet, mRetN, mAsg, mAsgO, mExpr, mNext, mDead, mTest, mAnd, mOr, mNot, mIf, mAndV, mOrV, mNotV, notD, mChain, mOp1, mOp2, mC, mVar, mCall, mCons, mNil, mTup, mLst, mStar, mCallV, mCallD, mPar, mAsgG, gT, gTs, gN, setV, notIo, nxt, Rs.bind, lift, asB, one1, two1, ixD, addD, subD, lenT, lenL, lenSc, tupD, intD, eq0, dI, dB, dS, List.length_cons, List.length_nil, List.map_cons, List.map_nil, List.append_nil, List.nil_append, List.cons_append, List.getElem?_cons_zero, List.getElem?_cons_succ, List.set_cons_zero, List.set_cons_succ, List.replicate, Option.bind_some, Option.map_some, Option.bind, Nat.zero_add, Nat.add_zero, Nat.reduceAdd, Nat.reduceSub, Nat.reduceEqDiff, if_true, if_false, reduceIte, Bool.false_eq_true, Bool.not_true, Bool.not_false, isSs, isSt, isTt, isTs, isIi, isBi, Nat.reduceLT, decide_true, decide_false, mSetF, clsAt, fldS, muOf, Sl.get, Sl.put, putD, mSetFs, fldsT, fldsS, allS, mMake, mMakeL, mCm, fnN, mJs, itSeq, mMeth, beq_self_eq_true, and_self, List.isEmpty_nil, List.isEmpty_cons, Option.map, big, Nat.reduceLeDiff, Nat.zero_le, Nat.le_refl]
theorem o9 : fn_is_step none [.tup [.str "row", .int 0, (T.obj (T.leaf true)), .int 0]] = .ret (.bl false, false) none := by rfl
theorem o10 : fn_is_step none [.tup [.int 0, .str "row", (T.obj (T.leaf true))]] = .ret (.bl false, false) none := by rfl
theorem o11 : fn_is_step none [.tup [.str "row", .non, (T.obj (T.leaf true))]] = .ret (.bl false, false) none := by simp only [fn_is_step, m_is_step, ne33, z3, w_row, w_side, w_tie, cn2, cn0, cnT, cnM, cnN, gt21, gt01, noB, is_obj, noX, fnSem, en0, pre0, ioOf, mSeq, mIfS, mRet, mRetN, mAsg, mAsgO, mExpr, mNext, mDead, mTest, mAnd, mOr, mNot, mIf, mAndV, mOrV, mNotV, notD, mChain, mOp1, mOp2, mC, mVar, mCall, mCons, mNil, mTup, mLst, mStar, mCallV, mCallD, mPar, mAsgG, gT, gTs, gN, setV, notIo, nxt, Rs.bind, lift, asB, one1, two1, ixD, addD, subD, lenT, lenL, lenSc, tupD, intD, eq0, dI, dB, dS, List.length_cons, List.length_nil, List.map_cons, List.map_nil, List.append_nil, List.nil_append, List.cons_append, List.getElem?_cons_zero, List.getElem?_cons_succ, List.set_cons_zero, List.set_cons_succ, List.replicate, Option.bind_some, Option.map_some, Option.bind, Nat.zero_add, Nat.add_zero, Nat.reduceAdd, Nat.reduceSub, Nat.reduceEqDiff, if_true, if_false, reduceIte, Bool.false_eq_true, Bool.not_true, Bool.not_false, isSs, isSt, isTt, isTs, isIi, isBi, Nat.reduceLT, decide_true, decide_false, mSetF, clsAt, fldS, muOf, Sl.get, Sl.put, putD, mSetFs, fldsT, fldsS, allS, mMake, mMakeL, mCm, fnN, mJs, itSeq, mMeth, beq_self_eq_true, and_self, List.isEmpty_nil, List.isEmpty_cons, Option.map, big, Nat.reduceLeDiff, Nat.zero_le, Nat.le_refl]
theorem surr_not (d : D) (h : isD 1 ans_tuple d = some (dB false)) : fn_is_surrounding none [d] = .ret (.bl false, false) none := by
  simp only [fn_is_surrounding, m_is_surrounding, h, noX, fnSem, en0, pre0, ioOf, mSeq, mIfS, mRet, mRetN, mAsg, mAsgO, mExpr, mNext, mDead, mTest, mAnd, mOr, mNot, mIf, mAndV, mOrV, mNotV, notD, mChain, mOp1, mOp2, mC, mVar, mCall, mCons, mNil, mTup, mLst, mStar, mCallV, mCallD, mPar, mAsgG, gT, gTs, gN, setV, notIo, nxt, Rs.bind, lift, asB, one1, two1, ixD, addD, subD, lenT, lenL, lenSc, tupD, intD, eq0, dI, dB, dS, List.length_cons, List.length_nil, List.map_cons, List.map_nil, List.append_nil, List.nil_append, List.cons_append, List.getElem?_cons_zero, List.getElem?_cons_succ, List.set_cons_zero, List.set_cons_succ, List.replicate, Option.bind_some, Option.map_some, Option.bind, Nat.zero_add, Nat.add_zero, Nat.reduceAdd, Nat.reduceSub, Nat.reduceEqDiff, if_true, if_false, reduceIte, Bool.false_eq_true, Bool.not_true, Bool.not_false, isSs, isSt, isTt, isTs, isIi, isBi, Nat.reduceLT, decide_true, decide_false, mSetF, clsAt, fldS, muOf, Sl.get, Sl.put, putD, mSetFs, fldsT, fldsS, allS, mMake, mMakeL, mCm, fnN, mJs, itSeq, mMeth, beq_self_eq_true, and_self, List.isEmpty_nil, List.isEmpty_cons, Option.map, big, Nat.reduceLeDiff, Nat.zero_le, Nat.le_refl]
theorem surr_long (ds : List D) (h : 60 < ds.length) : fn_is_surrounding none [.tup ds] = .ret (.bl false, false) none := by
  have d : decide (((ds.length : Nat) : Int) ≤ 60) = false := decide_eq_false (by omega)
  simp only [fn_is_surrounding, m_is_surrounding, leI_int, d, noX, fnSem, en0, pre0, ioOf, mSeq, mIfS, mRet, mRetN, mAsg, mAsgO, mExpr, mNext, mDead, mTest, mAnd, mOr, mNot, mIf, mAndV, mOrV, mNotV, notD, mChain, mOp1, mOp2, mC, mVar, mCall, mCons, mNil, mTup, mLst, mStar, mCallV, mCallD, mPar, mAsgG, gT, gTs, gN, setV, notIo, nxt, Rs.bind, lift, asB, one1, two1, ixD, addD, subD, lenT, lenL, lenSc, tupD, intD, eq0, dI, dB, dS, List.length_cons, List.length_nil, List.map_cons, List.map_nil, List.append_nil, List.nil_append, List.cons_append, List.getElem?_cons_zero, List.getElem?_cons_succ, List.set_cons_zero, List.set_cons_succ, List.replicate, Option.bind_some, Option.map_some, Option.bind, Nat.zero_add, Nat.add_zero, Nat.reduceAdd, Nat.reduceSub, Nat.reduceEqDiff, if_true, if_false, reduceIte, Bool.false_eq_true, Bool.not_true, Bool.not_false, isSs, isSt, isTt, isTs, isIi, isBi, Nat.reduceLT, decide_true, decide_false, mSetF, clsAt, fldS, muOf, Sl.get, Sl.put, putD, mSetFs, fldsT, fldsS, allS, mMake, mMakeL, mCm, fnN, mJs, itSeq, mMeth, beq_self_eq_true, and_self, List.isEmpty_nil, List.isEmpty_cons, Option.map, big, Nat.reduceLeDiff, Nat.zero_le, Nat.le_refl]
theorem surr_bad (ss : List Stp) (x : D) (hl : ss.length ≤ 50) (h : fn_is_step none [x] = .ret (.bl false, false) none) : fn_is_surrounding none [.tup (ss.map stO ++ [x])] = .ret (.bl false, false) none := by
  have bx : stepB x = false := by unfold stepB; rw [h]
  rw [surr_ok (ss.map stO ++ [x]) (fun d hd => by
    rcases List.mem_append.mp hd with hd | hd
    · obtain ⟨s, _, rfl⟩ := List.mem_map.mp hd
      rw [stepB_ok, step_ok]
    · rw [List.mem_singleton.mp hd, bx, h]) (by simp; omega)]
  have : (ss.map stO ++ [x]).all stepB = false := by rw [List.all_append]; simp [bx]
  rw [this]
theorem mul_rep (x : D) (k : Nat) (h : 2 ≤ k) (h' : k ≤ 1000) : mulT (.tup [x]) (.int k) = some (.tup (List.replicate k x), false) := by
  show repT (.tup [x]) (.int k) = _
  show (if [x] ≠ [] ∧ 2 ≤ (k : Int) ∧ (k : Int) ≤ 1000 ∧ [x].length ≤ 1000 then some ((D.tup (List.replicate (k : Int).toNat [x]).flatten, false) : Vl) else none) = _
  rw [if_pos ⟨by simp, by omega, by omega, by simp⟩]
  simp
theorem near_loop (x0 x1 x2 x3 x4 : Sl) : ∀ ds : List D, (∀ d ∈ ds, fn_is_surrounding none [d] = .ret (.bl false, false) none) → mLcLoop (gN 5) [5] (mTest (mOp2 (isBlD true) (mCallV fn_is_surrounding (mCons (mVar 5) mNil)) (mC (.bl false)))) (mVar 5) ds [] [x0, x1, x2, x3, x4, .non] = .ok [] [x0, x1, x2, x3, x4, .non]
  | [], _ => by simp only [mLcLoop]
  | d :: ds, h => by
    have h1 := h d (by simp)
    have ih := near_loop x0 x1 x2 x3 x4 ds fun z hz => h z (by simp [hz])
    simp only [mLcLoop, isBlD, wipeE, h1, ih, noX, fnSem, en0, pre0, ioOf, mSeq, mIfS, mRet, mRetN, mAsg, mAsgO, mExpr, mNext, mDead, mTest, mAnd, mOr, mNot, mIf, mAndV, mOrV, mNotV, notD, mChain, mOp1, mOp2, mC, mVar, mCall, mCons, mNil, mTup, mLst, mStar, mCallV, mCallD, mPar, mAsgG, gT, gTs, gN, setV, notIo, nxt, Rs.bind, lift, asB, one1, two1, ixD, addD, subD, lenT, lenL, lenSc, tupD, intD, eq0, dI, dB, dS, List.length_cons, List.length_nil, List.map_cons, List.map_nil, List.append_nil, List.nil_append, List.cons_append, List.getElem?_cons_zero, List.getElem?_cons_succ, List.set_cons_zero, List.set_cons_succ, List.replicate, Option.bind_some, Option.map_some, Option.bind, Nat.zero_add, Nat.add_zero, Nat.reduceAdd, Nat.reduceSub, Nat.reduceEqDiff, if_true, if_false, reduceIte, Bool.false_eq_true, Bool.not_true, Bool.not_false, isSs, isSt, isTt, isTs, isIi, isBi, Nat.reduceLT, decide_true, decide_false, mSetF, clsAt, fldS, muOf, Sl.get, Sl.put, putD, mSetFs, fldsT, fldsS, allS, mMake, mMakeL, mCm, fnN, mJs, itSeq, mMeth, beq_self_eq_true, and_self, List.isEmpty_nil, List.isEmpty_cons, Option.map, big, Nat.reduceLeDiff, Nat.zero_le, Nat.le_refl]
def oddL (g : List D) : List D := [.non, .int 0, .lst [], .dct [] [], .str "row", .lst g, .tup (g ++ [.non]), .tup (g ++ [.tup [.str "row", .int 0]]), .tup (g ++ [.tup [.str "row", .int 2, (T.obj (T.leaf true))]]), .tup (g ++ [.tup [.str "tie", .int 0, (T.obj (T.leaf true))]]), .tup (g ++ [.tup [.str "row", .bl true, (T.obj (T.leaf true))]]), .tup (g ++ [.tup [.str "side", .int (-1), (T.obj (T.leaf true))]]), .tup (g ++ [.lst [.str "row", .int 0, (T.obj (T.leaf true))]]), .tup (g ++ [.tup [.str "row", .int 0, .str "tie"]]), .tup (g ++ [.tup [.str "row", .int 0, (T.obj (T.leaf true)), .int 0]]), .tup (g ++ [.tup [.int 0, .str "row", (T.obj (T.leaf true))]]), .tup (g ++ [.tup [.str "row", .non, (T.obj (T.leaf true))]]), .tup (List.replicate 61 (.tup [.str "row", .int 0, (T.obj (T.leaf true))])), (T.obj (T.leaf true))]
theorem odd_no (ss : List Stp) (hl : ss.length ≤ 50) : ∀ d ∈ oddL (ss.map stO), fn_is_surrounding none [d] = .ret (.bl false, false) none := by
  intro d hd
  simp only [oddL, List.mem_cons, List.not_mem_nil, or_false] at hd
  rcases hd with rfl | rfl | rfl | rfl | rfl | rfl | rfl | rfl | rfl | rfl | rfl | rfl | rfl | rfl | rfl | rfl | rfl | rfl | rfl
  · exact surr_not _ rfl
  · exact surr_not _ rfl
  · exact surr_not _ rfl
  · exact surr_not _ rfl
  · exact surr_not _ rfl
  · exact surr_not _ rfl
  · exact surr_bad ss _ hl o1
  · exact surr_bad ss _ hl o2
  · exact surr_bad ss _ hl o3
  · exact surr_bad ss _ hl o4
  · exact surr_bad ss _ hl o5
  · exact surr_bad ss _ hl o6
  · exact surr_bad ss _ hl o7
  · exact surr_bad ss _ hl o8
  · exact surr_bad ss _ hl o9
  · exact surr_bad ss _ hl o10
  · exact surr_bad ss _ hl o11
  · exact surr_long _ (by simp)
  · exact surr_not _ rfl
theorem rep_good : fn_is_surrounding none [.tup (List.replicate 60 (.tup [.str "side", .int 1, (T.obj (T.leaf true))]))] = .ret (.bl true, false) none := by
  have h := good_ok (List.replicate 60 (false, true, .leaf true)) (by simp)
  rw [List.map_replicate] at h
  exact h
theorem near_ok (ss : List Stp) (hl : ss.length ≤ 50) (hv : ∀ s ∈ ss, s.2.2.leaves ≤ 60) (m : Mu) : fn_l_near_right (some m) [.lst (ss.map stP)] = .ret (.bl true, false) (some m) := by
  have e1 := steps_made_ok ss hv (by omega)
  have e2 := tie_ok
  have on := odd_no ss hl
  have g1 := good_ok ss (by omega)
  have g2 := rep_good
  have g3 : fn_is_surrounding none [.tup []] = .ret (.bl true, false) none := good_ok [] (by simp)
  have r1 := mul_rep (.tup [.str "row", .int 0, (T.obj (T.leaf true))]) 61 (by decide) (by decide)
  have r2 := mul_rep (.tup [.str "side", .int 1, (T.obj (T.leaf true))]) 60 (by decide) (by decide)
  have z61 : ((61 : Nat) : Int) = 61 := rfl
  have z60 : ((60 : Nat) : Int) = 60 := rfl
  rw [z61] at r1
  rw [z60] at r2
  have ng : negD (.int 1) = some (dI (-1)) := rfl
  have gl : (ss.map stO).length + 1 ≤ 16777216 := by simp; omega
  generalize ss.map stO = g at *
  unfold oddL at on
  have c := near_loop (.io m) (.val (.lst (ss.map stP))) (.val (.tup g)) (.val (T.obj (T.leaf true))) (.val (.lst (oddL g))) (oddL g) on
  unfold oddL at c
  generalize List.replicate 61 (D.tup [.str "row", .int 0, (T.obj (T.leaf true))]) = rp1 at *
  generalize List.replicate 60 (D.tup [.str "side", .int 1, (T.obj (T.leaf true))]) = rp2 at *
  generalize T.obj (T.leaf true) = lo at *
  simp only [fn_l_near_right, m_l_near_right, c_l_near_right_0, mLc, mIt, itL, mDct0, lstD, isBlD, wipeE, e1, e2, g1, g2, g3, r1, r2, ng, gl, c, ne_nil2, noX, fnSem, en0, pre0, ioOf, mSeq, mIfS, mRet, mRetN, mAsg, mAsgO, mExpr, mNext, mDead, mTest, mAnd, mOr, mNot, mIf, mAndV, mOrV, mNotV, notD, mChain, mOp1, mOp2, mC, mVar, mCall, mCons, mNil, mTup, mLst, mStar, mCallV, mCallD, mPar, mAsgG, gT, gTs, gN, setV, notIo, nxt, Rs.bind, lift, asB, one1, two1, ixD, addD, subD, lenT, lenL, lenSc, tupD, intD, eq0, dI, dB, dS, List.length_cons, List.length_nil, List.map_cons, List.map_nil, List.append_nil, List.nil_append, List.cons_append, List.getElem?_cons_zero, List.getElem?_cons_succ, List.set_cons_zero, List.set_cons_succ, List.replicate, Option.bind_some, Option.map_some, Option.bind, Nat.zero_add, Nat.add_zero, Nat.reduceAdd, Nat.reduceSub, Nat.reduceEqDiff, if_true, if_false, reduceIte, Bool.false_eq_true, Bool.not_true, Bool.not_false, isSs, isSt, isTt, isTs, isIi, isBi, Nat.reduceLT, decide_true, decide_false, mSetF, clsAt, fldS, muOf, Sl.get, Sl.put, putD, mSetFs, fldsT, fldsS, allS, mMake, mMakeL, mCm, fnN, mJs, itSeq, mMeth, beq_self_eq_true, and_self, List.isEmpty_nil, List.isEmpty_cons, Option.map, big, Nat.reduceLeDiff, Nat.zero_le, Nat.le_refl]
end PM.G

namespace PM.G
open PySem PySem.Spec L2 PM
open PySem.PyData (strOk)
theorem size_prop (t : T) : objN 0 fn_Building_size [t.obj] = some (.int (t.leaves : Nat), false) := by
  have i1 : isObj 0 t.obj = true := by rw [obj_eq]; rfl
  unfold objN
  simp only [i1, fn_Building_size, m_Building_size, fld_size, noX, fnSem, en0, pre0, ioOf, mSeq, mIfS, mRet, mRetN, mAsg, mAsgO, mExpr, mNext, mDead, mTest, mAnd, mOr, mNot, mIf, mAndV, mOrV, mNotV, notD, mChain, mOp1, mOp2, mC, mVar, mCall, mCons, mNil, mTup, mLst, mStar, mCallV, mCallD, mPar, mAsgG, gT, gTs, gN, setV, notIo, nxt, Rs.bind, lift, asB, one1, two1, ixD, addD, subD, lenT, lenL, lenSc, tupD, intD, eq0, dI, dB, dS, List.length_cons, List.length_nil, List.map_cons, List.map_nil, List.append_nil, List.nil_append, List.cons_append, List.getElem?_cons_zero, List.getElem?_cons_succ, List.set_cons_zero, List.set_cons_succ, List.replicate, Option.bind_some, Option.map_some, Option.bind, Nat.zero_add, Nat.add_zero, Nat.reduceAdd, Nat.reduceSub, Nat.reduceEqDiff, if_true, if_false, reduceIte, Bool.false_eq_true, Bool.not_true, Bool.not_false, isSs, isSt, isTt, isTs, isIi, isBi, Nat.reduceLT, decide_true, decide_false, mSetF, clsAt, fldS, muOf, Sl.get, Sl.put, putD, mSetFs, fldsT, fldsS, allS, mMake, mMakeL, mCm, fnN, mJs, itSeq, mMeth, beq_self_eq_true, and_self, List.isEmpty_nil, List.isEmpty_cons, Option.map, big, Nat.reduceLeDiff, Nat.zero_le, Nat.le_refl]
theorem right_ok (m : Mu) (k : Nat) (hk : k ≤ 500000) (hd : DiceK k m) : ∃ m', fn_l_right (some m) [] = .ret (.bl true, false) (some m') ∧ DiceK (k + 5000) m' := by
  obtain ⟨r, m1, e1, r0, r1, d1⟩ := roll_ok m k 8 (by decide) (by decide) (by omega) hd
  obtain ⟨c, hc⟩ := Int.eq_ofNat_of_zero_le r0
  subst hc
  obtain ⟨t, m2, e2, lt, d2⟩ := building_ok 64 (1 + c) (k + 1) m1 (by omega) (by omega) (by omega) (by omega) d1
  have c1 : ((1 + c : Nat) : Int) = 1 + (c : Int) := by omega
  rw [c1] at e2
  obtain ⟨r', m3, e3, r0', r1', d3⟩ := roll_ok m2 _ 4 (by decide) (by decide) (by omega) d2
  obtain ⟨c', hc'⟩ := Int.eq_ofNat_of_zero_le r0'
  subst hc'
  obtain ⟨o, m4, e4, lo, d4⟩ := building_ok 64 (1 + c') _ m3 (by omega) (by omega) (by omega) (by omega) d3
  have c2 : ((1 + c' : Nat) : Int) = 1 + (c' : Int) := by omega
  rw [c2] at e4
  have lp := paths_len t
  have tp := t.pos
  obtain ⟨d, m5, hm, e5, d5⟩ := pick_ok m4 _ (t.paths.map pD) (by intro z; have e := congrArg List.length z; rw [List.length_map, List.length_nil] at e; omega) (by simp; omega) (by omega) d4
  obtain ⟨p, hp, rfl⟩ := List.mem_map.mp hm
  have ok := (mem_paths t p).mp hp
  have pl := path_len t p hp
  have d5' : DiceK (k + 200) m5 := d5.mono (by omega)
  obtain ⟨m6, one, e6, d6, l1, v1⟩ := steps_ok 4 4 (by decide) (by decide) (by decide) m5 _ (by omega) d5'
  obtain ⟨m7, two, e7, d7, l2, v2⟩ := steps_ok 3 3 (by decide) (by decide) (by decide) m6 _ (by omega) d6
  have e6' : fn_l_steps (some m5) [.int 4, .int 4] = .ret (.lst (one.map stP), true) (some m6) := e6
  have e7' : fn_l_steps (some m6) [.int 3, .int 3] = .ret (.lst (two.map stP), true) (some m7) := e7
  refine ⟨m7, ?_, d7.mono (by omega)⟩
  have b1 := built_ok t 64 (by omega) (by omega)
  have b2 := paths_prop t (by omega)
  have b3 := sur_ok t p ok (by omega) (by omega)
  have b4 := steps_up_ok t p ok (by omega)
  have b5 := steps_made_ok (t.up p) (fun s hs => by have := up_lv p t s hs; omega) (by have := up_len t p; omega)
  have b6 := neX_st (t.up p)
  have b7 := good_ok (t.up p) (by have := up_len t p; omega)
  have b8 := built_ok o 64 (by omega) (by omega)
  have b9 := at_ok t p ok
  have la := at_leaves p t ok
  have b10 := into_ok (t.up p) (t.at p) (by have := up_len t p; omega) (by rw [up_put p t _ ok, put_self p t ok]; omega)
  rw [up_put p t _ ok, put_self p t ok] at b10
  have b11 := opNe t t
  rw [decide_eq_true rfl, Bool.not_true] at b11
  have pv := put_leaves p t o ok
  have b12 := into_ok (t.up p) o (by have := up_len t p; omega) (by rw [up_put p t _ ok]; omega)
  rw [up_put p t _ ok] at b12
  have b13 := put_ok t o p ok (by omega) (by omega)
  have b14 := opNe (t.put p o) (t.put p o)
  rw [decide_eq_true rfl, Bool.not_true] at b14
  have w1 := lvS_le 4 one v1
  have w2 := lvS_le 3 two v2
  have x1 := putS_leaves one t
  have x2 := putS_leaves two (putS one t)
  have b15 := steps_made_ok one (fun s hs => by have := v1 s hs; omega) (by omega)
  have b16 := into_ok one t (by omega) (by omega)
  have b17 := text_prop (putS one t)
  have b18 := l_put_ok one t
  have b19 := text_ok (putS one t) 64 (by omega) (by omega)
  have b20 := ne_self (strOk_text (putS one t))
  have b21 := size_prop (putS one t)
  have b22 := leaves_ok (putS one t) 64 (by omega) (by omega)
  have b23 := lv_len (putS one t)
  have b24 := neI ((putS one t).leaves : Nat)
  have b25 := steps_made_ok two (fun s hs => by have := v2 s hs; omega) (by omega)
  have b26 := into_ok two (putS one t) (by omega) (by omega)
  have b27 := steps_made_ok (one ++ two) (fun s hs => by
    rcases List.mem_append.mp hs with h | h
    · have := v1 s h; omega
    · have := v2 s h; omega) (by simp; omega)
  rw [List.map_append (f := stP)] at b27
  have b28 := into_ok (one ++ two) t (by simp; omega) (by rw [putS_app]; omega)
  rw [putS_app] at b28
  have b29 := opNe (putS two (putS one t)) (putS two (putS one t))
  rw [decide_eq_true rfl, Bool.not_true] at b29
  have b30 : fn_put_into none [.tup [], t.obj] = .ret (t.obj, false) none := into_ok [] t (by simp) (show t.leaves ≤ 60 by omega)
  have b31 := near_ok one (by omega) (fun s hs => by have := v1 s hs; omega) m7
  have b32 : fn_surrounding_at none [t.obj, .tup []] = .ret (.tup [], false) none := by
    have h := sur_ok t [] (ok_nil t) (by omega) (by simp)
    have e : t.up [] = [] := by cases t <;> rfl
    rw [e] at h
    exact h
  have i1 := isO t
  have al : one.length + two.length ≤ 16777216 := by omega
  generalize (t.put p o).obj = x_1 at *
  generalize (putS two (putS one t)).obj = x_2 at *
  generalize (putS one t).obj = x_3 at *
  generalize (putS one t).plain = x_4 at *
  generalize (putS one t).text = x_5 at *
  generalize (putS one t).lv = x_6 at *
  generalize (t.at p).obj = x_7 at *
  generalize t.obj = x_8 at *
  generalize t.plain = x_9 at *
  generalize o.obj = x_10 at *
  generalize o.plain = x_11 at *
  generalize pD p = x_12 at *
  generalize List.map stO (t.up p) = x_13 at *
  simp only [fn_l_right, m_l_right, lstD, isBlD, i1, e1, e2, e3, e4, e5, e6', e7', b1, b2, b3, b4, b5, b6, b7, b8, b9, b10, b11, b12, b13, b14, b15, b16, b17, b18, b19, b20, b21, b22, b23, b24, b25, b26, b27, b28, b29, b30, b31, b32, int2_int, List.length_map, al, noX, fnSem, en0, pre0, ioOf, mSeq, mIfS, mRet, mRetN, mAsg, mAsgO, mExpr, mNext, mDead, mTest, mAnd, mOr, mNot, mIf, mAndV, mOrV, mNotV, notD, mChain, mOp1, mOp2, mC, mVar, mCall, mCons, mNil, mTup, mLst, mStar, mCallV, mCallD, mPar, mAsgG, gT, gTs, gN, setV, notIo, nxt, Rs.bind, lift, asB, one1, two1, ixD, addD, subD, lenT, lenL, lenSc, tupD, intD, eq0, dI, dB, dS, List.length_cons, List.length_nil, List.map_cons, List.map_nil, List.append_nil, List.nil_append, List.cons_append, List.getElem?_cons_zero, List.getElem?_cons_succ, List.set_cons_zero, List.set_cons_succ, List.replicate, Option.bind_some, Option.map_some, Option.bind, Nat.zero_add, Nat.add_zero, Nat.reduceAdd, Nat.reduceSub, Nat.reduceEqDiff, if_true, if_false, reduceIte, Bool.false_eq_true, Bool.not_true, Bool.not_false, isSs, isSt, isTt, isTs, isIi, isBi, Nat.reduceLT, decide_true, decide_false, mSetF, clsAt, fldS, muOf, Sl.get, Sl.put, putD, mSetFs, fldsT, fldsS, allS, mMake, mMakeL, mCm, fnN, mJs, itSeq, mMeth, beq_self_eq_true, and_self, List.isEmpty_nil, List.isEmpty_cons, Option.map, big, Nat.reduceLeDiff, Nat.zero_le, Nat.le_refl]
theorem turn_loop (x0 s1 x2 x5 x6 : Sl) : ∀ (n s : Nat) (m : Mu) (k : Nat) (s4 : Sl), k + 5000 * n ≤ 400000 → DiceK k m → nIo s4 = true → ∃ m' s4', nIo s4' = true ∧ mLoop (gN 4) (mIfS (mNot (mTest (mCallD fn_l_right 3 mNil))) (mRet (mC (.bl false))) mNext) (rgL s n) [x0, s1, x2, .own m, s4, x5, x6] = .ok .nx [x0, s1, x2, .own m', s4', x5, x6]
  | 0, s, m, k, s4, _, _, h4 => ⟨m, s4, h4, by simp only [rgL, mLoop]⟩
  | n + 1, s, m, k, s4, hk, hd, h4 => by
    obtain ⟨m1, e, d⟩ := right_ok m k (by omega) hd
    obtain ⟨m', s4', k4, ih⟩ := turn_loop x0 s1 x2 x5 x6 n (s + 1) m1 (k + 5000) (.val (.int s)) (by omega) d rfl
    refine ⟨m', s4', k4, ?_⟩
    have n4 : notIo (some s4) = true := h4
    have sc : ((s : Int) + 1) = ((s + 1 : Nat) : Int) := by omega
    simp only [rgL, mLoop, e, n4, sc, ih, noX, fnSem, en0, pre0, ioOf, mSeq, mIfS, mRet, mRetN, mAsg, mAsgO, mExpr, mNext, mDead, mTest, mAnd, mOr, mNot, mIf, mAndV, mOrV, mNotV, notD, mChain, mOp1, mOp2, mC, mVar, mCall, mCons, mNil, mTup, mLst, mStar, mCallV, mCallD, mPar, mAsgG, gT, gTs, gN, setV, nio_v, nio_n, nio_o, nxt, Rs.bind, lift, asB, one1, two1, ixD, addD, subI, lenT, lenL, lenSc, tupD, intD, eq0, dI, dB, dS, List.length_cons, List.length_nil, List.map_cons, List.map_nil, List.append_nil, List.nil_append, List.cons_append, List.getElem?_cons_zero, List.getElem?_cons_succ, List.set_cons_zero, List.set_cons_succ, List.replicate, Option.bind_some, Option.map_some, Option.bind, Nat.zero_add, Nat.add_zero, Nat.reduceAdd, Nat.reduceSub, Nat.reduceEqDiff, if_true, if_false, reduceIte, Bool.false_eq_true, Bool.not_true, Bool.not_false, isSs, isSt, isTt, isTs, isIi, isBi, Nat.reduceLT, decide_true, decide_false, mSetF, clsAt, fldS, muOf, Sl.get, Sl.put, putD, mSetFs, fldsT, fldsS, allS, mMake, mMakeL, mCm, fnN, mJs, itSeq, mMeth, beq_self_eq_true, and_self, List.isEmpty_nil, List.isEmpty_cons, Option.map, big, Nat.reduceLeDiff, Nat.zero_le, Nat.le_refl]
theorem law_loop (ns : List Int) : ∀ (n s : Nat) (s1 s3 s4 : Sl), s + n ≤ 63 → nIo s1 = true → nIo s3 = true → nIo s4 = true → ∃ s1' s3' s4',
    mLoop (gN 1) (mSeq (mAsgO 3 (mCallV fn_l_dice (mCons (mVar 0) (mCons (mVar 1) mNil)))) p_lawX_0) (rgL s n) [.val (.scr (ns.map D.int)), s1, .non, s3, s4, .non, .non] = .ok .nx [.val (.scr (ns.map D.int)), s1', .non, s3', s4', .non, .non]
  | 0, s, s1, s3, s4, _, _, _, _ => ⟨s1, s3, s4, by simp only [rgL, mLoop]⟩
  | n + 1, s, s1, s3, s4, hs, h1, h3, h4 => by
    obtain ⟨m, ed, dk⟩ := dice_ok ns s (by omega)
    obtain ⟨m', s4', k4, lp⟩ := turn_loop (.val (.scr (ns.map D.int))) (.val (.int s)) .non .non .non 3 0 (.lst m) 0 s4 (by decide) dk h4
    obtain ⟨s1'', s3'', s4'', ih⟩ := law_loop ns n (s + 1) (.val (.int s)) (.own m') s4' (by omega) rfl rfl k4
    refine ⟨s1'', s3'', s4'', ?_⟩
    have n1 : notIo (some s1) = true := h1
    have n3 : notIo (some s3) = true := h3
    have sc : ((s : Int) + 1) = ((s + 1 : Nat) : Int) := by omega
    have r3 : rng1 [.int 3] = some (rgL 0 3) := rfl
    simp only [Int.natCast_zero] at lp
    have pl : p_lawX_0 [.val (.scr (ns.map D.int)), .val (.int s), .non, .own (.lst m), s4, .non, .non] = .ok .nx [.val (.scr (ns.map D.int)), .val (.int s), .non, .own m', s4', .non, .non] := by
      unfold p_lawX_0 mFor
      have hi : (mItA rng1 (mCons (mC (.int 3)) mNil)) [.val (.scr (ns.map D.int)), .val (.int s), .non, .own (.lst m), s4, .non, .non] = .ok (rgL 0 3) [.val (.scr (ns.map D.int)), .val (.int s), .non, .own (.lst m), s4, .non, .non] := by simp only [mItA, r3, noX, fnSem, en0, pre0, ioOf, mSeq, mIfS, mRet, mRetN, mAsg, mAsgO, mExpr, mNext, mDead, mTest, mAnd, mOr, mNot, mIf, mAndV, mOrV, mNotV, notD, mChain, mOp1, mOp2, mC, mVar, mCall, mCons, mNil, mTup, mLst, mStar, mCallV, mCallD, mPar, mAsgG, gT, gTs, gN, setV, notIo, nxt, Rs.bind, lift, asB, one1, two1, ixD, addD, subD, lenT, lenL, lenSc, tupD, intD, eq0, dI, dB, dS, List.length_cons, List.length_nil, List.map_cons, List.map_nil, List.append_nil, List.nil_append, List.cons_append, List.getElem?_cons_zero, List.getElem?_cons_succ, List.set_cons_zero, List.set_cons_succ, List.replicate, Option.bind_some, Option.map_some, Option.bind, Nat.zero_add, Nat.add_zero, Nat.reduceAdd, Nat.reduceSub, Nat.reduceEqDiff, if_true, if_false, reduceIte, Bool.false_eq_true, Bool.not_true, Bool.not_false, isSs, isSt, isTt, isTs, isIi, isBi, Nat.reduceLT, decide_true, decide_false, mSetF, clsAt, fldS, muOf, Sl.get, Sl.put, putD, mSetFs, fldsT, fldsS, allS, mMake, mMakeL, mCm, fnN, mJs, itSeq, mMeth, beq_self_eq_true, and_self, List.isEmpty_nil, List.isEmpty_cons, Option.map, big, Nat.reduceLeDiff, Nat.zero_le, Nat.le_refl]
      rw [hi]
      exact lp
    simp only [rgL, mLoop, mAsgO, setO, toMu, n1, n3, ed, pl, sc, ih, noX, fnSem, en0, pre0, ioOf, mSeq, mIfS, mRet, mRetN, mAsg, mAsgO, mExpr, mNext, mDead, mTest, mAnd, mOr, mNot, mIf, mAndV, mOrV, mNotV, notD, mChain, mOp1, mOp2, mC, mVar, mCall, mCons, mNil, mTup, mLst, mStar, mCallV, mCallD, mPar, mAsgG, gT, gTs, gN, setV, nio_v, nio_n, nio_o, nxt, Rs.bind, lift, asB, one1, two1, ixD, addD, subI, lenT, lenL, lenSc, tupD, intD, eq0, dI, dB, dS, List.length_cons, List.length_nil, List.map_cons, List.map_nil, List.append_nil, List.nil_append, List.cons_append, List.getElem?_cons_zero, List.getElem?_cons_succ, List.set_cons_zero, List.set_cons_succ, List.replicate, Option.bind_some, Option.map_some, Option.bind, Nat.zero_add, Nat.add_zero, Nat.reduceAdd, Nat.reduceSub, Nat.reduceEqDiff, if_true, if_false, reduceIte, Bool.false_eq_true, Bool.not_true, Bool.not_false, isSs, isSt, isTt, isTs, isIi, isBi, Nat.reduceLT, decide_true, decide_false, mSetF, clsAt, fldS, muOf, Sl.get, Sl.put, putD, mSetFs, fldsT, fldsS, allS, mMake, mMakeL, mCm, fnN, mJs, itSeq, mMeth, beq_self_eq_true, and_self, List.isEmpty_nil, List.isEmpty_cons, Option.map, big, Nat.reduceLeDiff, Nat.zero_le, Nat.le_refl]
theorem rng_ok (ns : List Int) (x1 x2 x3 x4 x5 x6 : Sl) : ∃ n : Nat, n ≤ 2 ∧ (mItA rng1 (mCons (mCall (two1 maxD) (mCons (mC (.int 1)) (mCons (mCall (two1 minD) (mCons (mC (.int 2)) (mCons (mCall (one1 lenD) (mCons (mVar 0) mNil)) mNil))) mNil))) mNil)) [.val (.scr (ns.map D.int)), x1, x2, x3, x4, x5, x6] = .ok (rgL 0 n) [.val (.scr (ns.map D.int)), x1, x2, x3, x4, x5, x6] := by
  generalize hj : (if (((ns.map D.int).length : Nat) : Int) < 2 then (((ns.map D.int).length : Nat) : Int) else 2) = j
  generalize hi : (if j > 1 then j else 1) = i
  have b : 1 ≤ i ∧ i ≤ 2 := by
    rw [← hi, ← hj]
    split <;> split <;> omega
  have e1 := minD_int 2 (((ns.map D.int).length : Nat) : Int)
  rw [hj] at e1
  have e2 := maxD_int 1 j
  rw [hi] at e2
  have e3 : rng1 [.int i] = some (rgL 0 i.toNat) := by
    show (if -(2 ^ 62) ≤ i ∧ i < 2 ^ 62 then some (rgL 0 i.toNat) else none) = _
    rw [if_pos ⟨by omega, by omega⟩]
  refine ⟨i.toNat, by omega, ?_⟩
  simp only [mItA, e1, e2, e3, noX, fnSem, en0, pre0, ioOf, mSeq, mIfS, mRet, mRetN, mAsg, mAsgO, mExpr, mNext, mDead, mTest, mAnd, mOr, mNot, mIf, mAndV, mOrV, mNotV, notD, mChain, mOp1, mOp2, mC, mVar, mCall, mCons, mNil, mTup, mLst, mStar, mCallV, mCallD, mPar, mAsgG, gT, gTs, gN, setV, notIo, nxt, Rs.bind, lift, asB, one1, two1, ixD, addD, subD, lenT, lenL, lenSc, tupD, intD, eq0, dI, dB, dS, List.length_cons, List.length_nil, List.map_cons, List.map_nil, List.append_nil, List.nil_append, List.cons_append, List.getElem?_cons_zero, List.getElem?_cons_succ, List.set_cons_zero, List.set_cons_succ, List.replicate, Option.bind_some, Option.map_some, Option.bind, Nat.zero_add, Nat.add_zero, Nat.reduceAdd, Nat.reduceSub, Nat.reduceEqDiff, if_true, if_false, reduceIte, Bool.false_eq_true, Bool.not_true, Bool.not_false, isSs, isSt, isTt, isTs, isIi, isBi, Nat.reduceLT, decide_true, decide_false, mSetF, clsAt, fldS, muOf, Sl.get, Sl.put, putD, mSetFs, fldsT, fldsS, allS, mMake, mMakeL, mCm, fnN, mJs, itSeq, mMeth, beq_self_eq_true, and_self, List.isEmpty_nil, List.isEmpty_cons, Option.map, big, Nat.reduceLeDiff, Nat.zero_le, Nat.le_refl]
def tT : T := .leaf true
def tG : T := .leaf false
def t1 : T := .node true tT (.node false tG tT)
def u1 : List Stp := [(true, false, tT), (false, true, tG)]
def u2 : List Stp := [(false, false, tT), (true, true, tT)]
theorem last_eq (x : Str) : orD eqD (eqXD 0 fn_Building_uequ 3) (.lst [.str x, .tup (u2.map stO)]) (.lst [.str x, .tup (u2.map stO)]) = some (dB true) := by
  have e1 : eqD (.lst [.str x, .tup (u2.map stO)]) (.lst [.str x, .tup (u2.map stO)]) = none := by
    unfold eqD pyOk u2
    simp only [List.map_cons, toPy, toPyL, toPy_st, Option.bind_none, Option.map_none, Option.bind_some]
  unfold orD
  rw [e1]
  show eqXD 0 fn_Building_uequ 3 _ _ = _
  have e2 : eqXT 0 fn_Building_uequ 3 (.lst [.str x, .tup (u2.map stO)]) (.lst [.str x, .tup (u2.map stO)]) = true := by
    unfold u2
    simp only [List.map_cons, List.map_nil, eqXT, eqXL, eqX, eqF, beq_self_eq_true, Bool.true_and, Bool.and_true]
    have a := eqX_st 0 (false, false, tT)
    have b := eqX_st 0 (true, true, tT)
    simp only [Nat.zero_add] at a b
    simp only [a, b, Bool.and_self]
  unfold eqXD
  rw [if_pos e2]
theorem law_true (ns : List Int) (hl : ns.length ≤ 63) : fn_lawX none [.scr (ns.map D.int)] = .ret (.bl true, false) none := by
  obtain ⟨n, hn, er⟩ := rng_ok ns .non .non .non .non .non .non
  obtain ⟨s1, s3, s4, el⟩ := law_loop ns n 0 .non .non .non (by omega) rfl rfl rfl
  have lp : p_lawX_1 [.val (.scr (ns.map D.int)), .non, .non, .non, .non, .non, .non] = .ok .nx [.val (.scr (ns.map D.int)), s1, .non, s3, s4, .non, .non] := by
    unfold p_lawX_1 mFor
    rw [er]
    exact el
  have b1 : fn_Building_tie none [.cls 0] = .ret (tT.obj, false) none := tie_ok
  have b2 : fn_Building_gap none [.cls 0] = .ret (tG.obj, false) none := gap_ok
  have b3 := into_ok u1 tG (by decide) (by decide)
  have b4 := text_prop (putS u1 tG)
  have x4 : (putS u1 tG).text = "(gap | (gap + tie))" := by decide +kernel
  rw [x4] at b4
  have b5 := opOr tG tT (by decide)
  have b6 := opAdd tT (.node false tG tT) (by decide)
  have b7 := sur_ok t1 [true, false] trivial (by decide) (by decide)
  have x7 : t1.up [true, false] = u2 := rfl
  rw [x7] at b7
  have b8 := last_eq "(gap | (gap + tie))"
  have q7 : pD [true, false] = .tup [.int 1, .int 0] := rfl
  rw [q7] at b7
  have b7' : fn_surrounding_at none [(T.node true tT (.node false tG tT)).obj, .tup [.int 1, .int 0]] = .ret (.tup (u2.map stO), false) none := b7
  have y1 : u1.map stO = [.tup [.str "row", .int 0, tT.obj], .tup [.str "side", .int 1, tG.obj]] := rfl
  have y2 : u2.map stO = [.tup [.str "side", .int 0, tT.obj], .tup [.str "row", .int 1, tT.obj]] := rfl
  rw [y1] at b3
  rw [y2] at b7' b8
  clear b7 x7 y1 y2
  generalize (putS u1 tG).obj = z1 at *
  generalize (T.node true tT (.node false tG tT)).obj = z2 at *
  generalize (T.node false tG tT).obj = z3 at *
  generalize tT.obj = z4 at *
  generalize tG.obj = z5 at *
  have hs : nIo s1 = nIo s1 := rfl
  simp only [fn_lawX, m_lawX, lp, b1, b2, b3, b4, b5, b6, b7', b8, noX, fnSem, en0, pre0, ioOf, mSeq, mIfS, mRet, mRetN, mAsg, mAsgO, mExpr, mNext, mDead, mTest, mAnd, mOr, mNot, mIf, mAndV, mOrV, mNotV, notD, mChain, mOp1, mOp2, mC, mVar, mCall, mCons, mNil, mTup, mLst, mStar, mCallV, mCallD, mPar, mAsgG, gT, gTs, gN, setV, notIo, nxt, Rs.bind, lift, asB, one1, two1, ixD, addD, subD, lenT, lenL, lenSc, tupD, intD, eq0, dI, dB, dS, List.length_cons, List.length_nil, List.map_cons, List.map_nil, List.append_nil, List.nil_append, List.cons_append, List.getElem?_cons_zero, List.getElem?_cons_succ, List.set_cons_zero, List.set_cons_succ, List.replicate, Option.bind_some, Option.map_some, Option.bind, Nat.zero_add, Nat.add_zero, Nat.reduceAdd, Nat.reduceSub, Nat.reduceEqDiff, if_true, if_false, reduceIte, Bool.false_eq_true, Bool.not_true, Bool.not_false, isSs, isSt, isTt, isTs, isIi, isBi, Nat.reduceLT, decide_true, decide_false, mSetF, clsAt, fldS, muOf, Sl.get, Sl.put, putD, mSetFs, fldsT, fldsS, allS, mMake, mMakeL, mCm, fnN, mJs, itSeq, mMeth, beq_self_eq_true, and_self, List.isEmpty_nil, List.isEmpty_cons, Option.map, big, Nat.reduceLeDiff, Nat.zero_le, Nat.le_refl]
end PM.G

open PySem PySem.W PySem.Calls PyProof.Rows
set_option maxHeartbeats 0 in
theorem PySem.Challenge.cw_seamsayings_k58_whole_surroundings_holds : PySem.Challenge.rw_seamsayings_k58_whole_surroundings.Holds := by
  w_on; o_law
  refine HandSHeadRun.head_any (r := OpenLaw.row PySem.Challenge.rw_seamsayings_k58_whole_surroundings) (q := view (OpenLaw.row PySem.Challenge.rw_seamsayings_k58_whole_surroundings).prog [52]) (H := PM.G.hk) (ob := PM.G.ob) (M := 8000) (loose := PM.G.names) (d := HandSHeadRun.topDef (OpenLaw.row PySem.Challenge.rw_seamsayings_k58_whole_surroundings).prog 52) (kwd := []) PM.G.ob_eq (by kernel_rfl) (fun s => by kernel_rfl) PM.G.run (by kernel_rfl) (by kernel_rfl) (by kernel_rfl) (by rfl) (by first | assumption | decide +kernel) (by decide +kernel) ⟨rfl, rfl, rfl, rfl, rfl, by decide +kernel⟩ ?hw ?hc
  case hw => w_witness2
  case hc =>
    refine PM.walk_G (l := PySem.Challenge.rw_seamsayings_k58_whole_surroundings) (n := 63) (k := 73) (x := "_law_script") (Z := L2.CX0) rfl (by decide) (by kernel_rfl) ⟨rfl, by decide, by decide⟩ rfl ?F (fun _ _ _ _ z => z)
    intro w mg fa h Y G hmg0
    obtain ⟨K, KX, c⟩ := Y
    have hmg : mg ("law" : PySem.Str) = some (.ref fa) := by
      have e : (HandSHeadRun.topDef (OpenLaw.row PySem.Challenge.rw_seamsayings_k58_whole_surroundings).prog 52).name = ("law" : PySem.Str) := by kernel_rfl
      rw [← e]
      exact hmg0
    obtain ⟨a, fd, hm, hb, F⟩ := PM.G.top_law (PM.G.tx KX G c)
    have ea := hm.symm.trans hmg
    cases ea
    exact ⟨K, fd, PM.spOf (PM.G.wd K) 1 PM.G.fn_lawX, KX, hb, fun H a ns hl hO hS => PM.law_sp (w := PM.G.wd K) hO hS (PM.G.law_true ns hl), fun b0 _ _ => (F _ b0).toG⟩

