import PyProof.Rows.All
import Wide.All
import OpenK.AllK
import Wide.FinOn
import HandS.ForMost
import HandS.Exc
import HandS.ExcOwn
import HandS.WordsExc
import HandS.Slots
import HandS.ExcValue
import HandS.Star
import HandS.TupAny
import HandS.Wide
import HandS.IsInst
import HandS.FStr
import HandS.RaiseMore
import HandS.Walk
import HandS.Style
import HandS.SlotsOwn
import HandS.ClsMeth
import HandS.Iter
import KE.GoesEnum
import HandS.Ends
import HandS.HeadHook3
import HandS.Head2
import HandS.Deep
import HandS.TupMul
import HandS.Dict
import HandS.OwnEq
import KE.KExcSuper
import HandS.ExcInit
import HandS.TryMany
import HandS.ExcField
import PyProof.ListStr
import PyProof.StrOps2
import KE.KCallOwn
import OpenK.KMeth
import KE.KOwnIter
import HandS.IterNext
import PyProof.WalksMore
import HandS.Set
import HandS.Strs
import HandS.TupSets
import HandS.SetTxt0
import HandS.More
import HandS.Text
import HandS.ListItems
import HandS.TryOnly
import HandS.Conv
import KE.KExcIs
import HandS.ExcIs
import HandS.ExcCtx
import HandS.HotCalls
import PySem.Challenge.RW_seamsayings_k01_errors_and_what_they_kee
import HandS.HeadEnd
set_option Elab.async false
set_option linter.all false
set_option maxRecDepth 100000
set_option maxHeartbeats 4000000
namespace PM
open PySem L2

/-! ### data -/
inductive D where
  | non | bl (b : Bool) | int (i : Int) | str (x : Str) | tup (xs : List D) | lst (xs : List D) | dct (ks vs : List D) | obj (c : Nat) (fs : List D) | scr (xs : List D) | cls (c : Nat) | exn (c : Nat) (ns : List Str) (ds : List D)

/-- what is fixed around a body: the written part, the classes by number -/
structure Wd where
  K : PySem.W.Frag
  cl : Nat → Addr

def WrT (K : PySem.W.Frag) (a : Addr) (xs : List V) : Prop :=
  ∃ (o : Obj) (its : Array Value) (n : Nat), K.lookup a = some o ∧ o.cls = .type "tuple" ∧ o.data = .seq its n ∧ its.size ≤ sizeLine ∧ Vals xs its.toList
def WrL (K : PySem.W.Frag) (a : Addr) (xs : List V) : Prop :=
  ∃ (o : Obj) (its : Array Value) (n : Nat), K.lookup a = some o ∧ o.cls = .type "list" ∧ o.dict = none ∧ o.data = .seq its n ∧ its.size ≤ sizeLine ∧ Vals xs its.toList

abbrev Av := Addr → Prop

/-- a tracked thing that is not guarded -/
def At (O : Av) (H : Hp) (a : Addr) (u : HO) : Prop := ¬ O a ∧ H a = some u

def keyD : D → Option Key
  | .int i => some (.inl i)
  | .str x => some (.inr x)
  | _ => none
def keysD : List D → List Key → Prop
  | [], ks => ks = []
  | d :: ds, ks => ∃ k ks', ks = k :: ks' ∧ keyD d = some k ∧ keysD ds ks'

/-- an exception with its dict at d -/
def ExD (cls : Value) (d a : Addr) : HO := .ext fun h => ∃ (oe : Obj) (vs : Array Value), h.get? a = some oe ∧ Zc cls (some d) oe ∧ oe.data = .fields vs
mutual
def Rep (w : Wd) (O : Av) (H : Hp) : D → V → Prop
  | .non, v => v = .non
  | .bl b, v => v = .bl b
  | .int i, v => v = .int i
  | .str x, v => v = .str x
  | .cls c, v => v = .ref (w.cl c)
  | .tup ds, v => ∃ a vs, v = .ref a ∧ (At O H a (.tup vs) ∨ WrT w.K a vs) ∧ RepL w O H ds vs
  | .lst ds, v => ∃ a vs, v = .ref a ∧ At O H a (.lst vs) ∧ RepL w O H ds vs
  | .dct ks ds, v => ∃ a kvs, v = .ref a ∧ (At O H a (.dK kvs) ∨ ∃ o, At O H a (.frz o (.dK kvs))) ∧ keysD ks (kvs.map (·.1)) ∧ RepL w O H ds (kvs.map (·.2))
  | .obj c fs, v => ∃ a dx vs, v = .ref a ∧ dx ≠ a ∧ ¬ O a ∧ ¬ O dx ∧ H a = some (SlX.SlO a (w.cl c) dx (vs.map some)) ∧ H dx = some (.xd []) ∧ RepL w O H fs vs
  | .scr ds, v => ∃ a vs, v = .ref a ∧ ((∃ o, At O H a (.frz o (.lst vs))) ∨ WrL w.K a vs) ∧ RepL w O H ds vs
  | .exn c ns ds, v => ∃ a vs, v = .ref a ∧ ((ns = [] ∧ At O H a (ExO (.ref (w.cl c)) a)) ∨ ∃ d, At O H a (ExD (.ref (w.cl c)) d a) ∧ At O H d (.xd (ns.zip vs))) ∧ RepL w O H ds vs
def RepL (w : Wd) (O : Av) (H : Hp) : List D → List V → Prop
  | [], vs => vs = []
  | d :: ds, vs => ∃ v vs', vs = v :: vs' ∧ Rep w O H d v ∧ RepL w O H ds vs'
end

/-- from one time to a later one -/
structure Step (O : Av) (H : Hp) (O' : Av) (H' : Hp) : Prop where
  sub : ∀ a, O' a → O a ∨ H a = none
  kept : ∀ a o, ¬ O a → H a = some o → H' a = some o
  dom : ∀ a, H a ≠ none → H' a ≠ none
theorem Step.refl (O : Av) (H : Hp) : Step O H O H := ⟨fun _ h => .inl h, fun _ _ _ h => h, fun _ h => h⟩
theorem Step.off {O O' : Av} {H H' : Hp} (s : Step O H O' H') {a : Addr} (h : ¬ O a) (e : H a ≠ none) : ¬ O' a := fun q => (s.sub a q).elim h e
theorem Step.trans {O O' O'' : Av} {H H' H'' : Hp} (s : Step O H O' H') (t : Step O' H' O'' H'') : Step O H O'' H'' where
  sub := fun a q => by
    rcases t.sub a q with q | q
    · exact s.sub a q
    · refine .inr ?_
      cases e : H a with
      | none => rfl
      | some o => exact absurd q (s.dom a (by rw [e]; simp))
  kept := fun a o h e => t.kept a o (s.off h (by rw [e]; simp)) (s.kept a o h e)
  dom := fun a h => t.dom a (s.dom a h)

theorem At.step {O O' : Av} {H H' : Hp} (s : Step O H O' H') {a : Addr} {u : HO} (h : At O H a u) : At O' H' a u := by
  obtain ⟨h1, h2⟩ := h
  exact ⟨s.off h1 (by rw [h2]; simp), s.kept a _ h1 h2⟩

section
variable {w : Wd} {O O' : Av} {H H' : Hp}
mutual
theorem Rep.step (s : Step O H O' H') : ∀ (d : D) (v : V), Rep w O H d v → Rep w O' H' d v
  | .non, v, h => by simpa only [Rep] using h
  | .bl _, v, h => by simpa only [Rep] using h
  | .int _, v, h => by simpa only [Rep] using h
  | .str _, v, h => by simpa only [Rep] using h
  | .cls _, v, h => by simpa only [Rep] using h
  | .tup ds, v, h => by
    simp only [Rep] at h ⊢
    obtain ⟨a, vs, e, h1, h2⟩ := h
    exact ⟨a, vs, e, h1.imp (At.step s) id, RepL.step s ds vs h2⟩
  | .lst ds, v, h => by
    simp only [Rep] at h ⊢
    obtain ⟨a, vs, e, h1, h2⟩ := h
    exact ⟨a, vs, e, At.step s h1, RepL.step s ds vs h2⟩
  | .scr ds, v, h => by
    simp only [Rep] at h ⊢
    obtain ⟨a, vs, e, h1, h2⟩ := h
    exact ⟨a, vs, e, h1.imp (fun ⟨o, q⟩ => ⟨o, At.step s q⟩) id, RepL.step s ds vs h2⟩
  | .dct ks ds, v, h => by
    simp only [Rep] at h ⊢
    obtain ⟨a, kvs, e, h1, h2, h3⟩ := h
    exact ⟨a, kvs, e, h1.imp (At.step s) (fun ⟨o, q⟩ => ⟨o, At.step s q⟩), h2, RepL.step s ds _ h3⟩
  | .obj c fs, v, h => by
    simp only [Rep] at h ⊢
    obtain ⟨a, dx, vs, e, n, o1, o2, h1, h2, h3⟩ := h
    exact ⟨a, dx, vs, e, n, s.off o1 (by rw [h1]; simp), s.off o2 (by rw [h2]; simp), s.kept _ _ o1 h1, s.kept _ _ o2 h2, RepL.step s fs vs h3⟩
  | .exn c ns ds, v, h => by
    simp only [Rep] at h ⊢
    obtain ⟨a, vs, e, h1, h2⟩ := h
    exact ⟨a, vs, e, h1.imp (fun q => ⟨q.1, At.step s q.2⟩) (fun ⟨d, q1, q2⟩ => ⟨d, At.step s q1, At.step s q2⟩), RepL.step s ds vs h2⟩
theorem RepL.step (s : Step O H O' H') : ∀ (ds : List D) (vs : List V), RepL w O H ds vs → RepL w O' H' ds vs
  | [], vs, h => by simpa only [RepL] using h
  | d :: ds, vs, h => by
    simp only [RepL] at h ⊢
    obtain ⟨v, vs', e, h1, h2⟩ := h
    exact ⟨v, vs', e, Rep.step s d v h1, RepL.step s ds vs' h2⟩
end
end

/-- slots of an instance -/
def RepO (w : Wd) (O : Av) (H : Hp) : List (Option D) → List (Option V) → Prop
  | [], vs => vs = []
  | none :: ds, vs => ∃ vs', vs = none :: vs' ∧ RepO w O H ds vs'
  | some d :: ds, vs => ∃ v vs', vs = some v :: vs' ∧ Rep w O H d v ∧ RepO w O H ds vs'
theorem RepO.step {w : Wd} {O O' : Av} {H H' : Hp} (s : Step O H O' H') : ∀ (ds : List (Option D)) (vs : List (Option V)), RepO w O H ds vs → RepO w O' H' ds vs
  | [], vs, h => h
  | none :: ds, vs, ⟨vs', e, h⟩ => ⟨vs', e, RepO.step s ds vs' h⟩
  | some d :: ds, vs, ⟨v, vs', e, h1, h2⟩ => ⟨v, vs', e, Rep.step s d v h1, RepO.step s ds vs' h2⟩
/-- a list, a dict that its holder alone may change; an instance that is being made -/
inductive Mu where
  | lst (ds : List D) | dct (ks vs : List D) | ins (c : Nat) (fs : List (Option D))
def Mu.is : Mu → D → Prop
  | .lst ds, d => d = .lst ds
  | .dct ks vs, d => d = .dct ks vs
  | .ins _ _, _ => False
def MuAt (w : Wd) (O : Av) (H : Hp) (a : Addr) : Mu → Prop
  | .lst ds => ∃ vs, H a = some (.lst vs) ∧ RepL w O H ds vs
  | .dct ks ds => ∃ kvs, H a = some (.dK kvs) ∧ keysD ks (kvs.map (·.1)) ∧ RepL w O H ds (kvs.map (·.2))
  | .ins c fs => ∃ dx vs, H a = some (SlX.SlO a (w.cl c) dx vs) ∧ dx ≠ a ∧ ¬ O dx ∧ H dx = some (.xd []) ∧ RepO w O H fs vs
theorem MuAt.step {w : Wd} {O O' : Av} {H H' : Hp} (s : Step O H O' H') {a : Addr} (e : H' a = H a) : ∀ {m : Mu}, MuAt w O H a m → MuAt w O' H' a m
  | .lst ds, ⟨vs, h1, h2⟩ => ⟨vs, e.trans h1, RepL.step s ds vs h2⟩
  | .dct ks ds, ⟨kvs, h1, h2, h3⟩ => ⟨kvs, e.trans h1, h2, RepL.step s ds _ h3⟩
  | .ins c fs, ⟨dx, vs, h1, h2, h3, h4, h5⟩ => ⟨dx, vs, e.trans h1, h2, s.off h3 (by rw [h4]; simp), s.kept _ _ h3 h4, RepO.step s fs vs h5⟩
theorem MuAt.some {w : Wd} {O : Av} {H : Hp} {a : Addr} : ∀ {m : Mu}, MuAt w O H a m → H a ≠ none
  | .lst _, ⟨_, h, _⟩ => by rw [h]; simp
  | .dct _ _, ⟨_, h, _⟩ => by rw [h]; simp
  | .ins _ _, ⟨_, _, h, _⟩ => by rw [h]; simp
/-- given away: it is data from then on -/
theorem MuAt.rep {w : Wd} {O : Av} {H : Hp} {a : Addr} (n : ¬ O a) : ∀ {m : Mu} {d : D}, m.is d → MuAt w O H a m → Rep w O H d (.ref a)
  | .lst ds, d, e, ⟨vs, h1, h2⟩ => by
    cases (show d = .lst ds from e)
    simp only [Rep]
    exact ⟨a, vs, rfl, ⟨n, h1⟩, h2⟩
  | .dct ks ds, d, e, ⟨kvs, h1, h2, h3⟩ => by
    cases (show d = .dct ks ds from e)
    simp only [Rep]
    exact ⟨a, kvs, rfl, .inl ⟨n, h1⟩, h2, h3⟩
  | .ins _ _, _, e, _ => e.elim

/-! ### slots -/
inductive Sl where
  | non | val (d : D) | own (m : Mu) | io (m : Mu)
abbrev En := List Sl

/-- around a body: what is guarded from outside, what it may change there, the heap at its beginning -/
structure Fr where
  w : Wd
  B : Av
  Io : Nat → Av
  He : Hp

def SlAt (F : Fr) (O : Av) (H : Hp) (i : Nat) : Sl → Option (Option V) → Prop
  | .non, _ => True
  | .val d, o => ∃ v, o = some (some v) ∧ Rep F.w O H d v
  | .own m, o => ∃ a, o = some (some (.ref a)) ∧ O a ∧ F.He a = none ∧ MuAt F.w O H a m
  | .io m, o => ∃ a, o = some (some (.ref a)) ∧ F.Io i a ∧ MuAt F.w O H a m
def Sl.mu : Sl → Bool
  | .own _ => true
  | .io _ => true
  | _ => false
structure Rel (F : Fr) (O : Av) (ρ : En) (σ : St) (H : Hp) : Prop where
  len : ρ.length = σ.length
  b0 : ∀ a, F.B a → O a
  bh : ∀ a, F.B a → F.He a ≠ none
  ib : ∀ i a, F.Io i a → F.B a
  dom : ∀ a, O a → H a ≠ none
  doh : ∀ a, F.He a ≠ none → H a ≠ none
  keep : ∀ a o, F.He a = some o → (∀ i, ¬ F.Io i a) → H a = some o
  slot : ∀ (i : Nat) (s : Sl), ρ[i]? = some s → SlAt F O H i s (σ[i]?)
  dist : ∀ (i j : Nat) (s t : Sl), ρ[i]? = some s → ρ[j]? = some t → s.mu = true → t.mu = true → σ[i]? = σ[j]? → i = j
theorem Rel.fresh {F : Fr} {O : Av} {ρ : En} {σ : St} {H : Hp} (R : Rel F O ρ σ H) {a : Addr} (h : H a = none) : ¬ O a := fun q => R.dom a q h
theorem Rel.freshE {F : Fr} {O : Av} {ρ : En} {σ : St} {H : Hp} (R : Rel F O ρ σ H) {a : Addr} (h : H a = none) : F.He a = none := by
  cases e : F.He a with
  | none => rfl
  | some o => exact absurd h (R.doh a (by rw [e]; simp))

/-- guarded, too -/
def ins (O : Av) (a : Addr) : Av := fun b => O b ∨ b = a
/-- guarded no longer -/
def off (O : Av) (a : Addr) : Av := fun b => O b ∧ b ≠ a
/-- no slot holds it to be changed -/
def Apart (ρ : En) (σ : St) (a : Addr) : Prop := ∀ (i : Nat) (s : Sl), ρ[i]? = some s → s.mu = true → σ[i]? ≠ some (some (.ref a))
theorem off_step {O : Av} {H : Hp} {a : Addr} : Step O H (off O a) H := ⟨fun _ h => .inl h.1, fun _ _ _ h => h, fun _ h => h⟩
theorem Rel.release {F : Fr} {O : Av} {ρ : En} {σ : St} {H : Hp} (R : Rel F O ρ σ H) {a : Addr} (ap : Apart ρ σ a) (hb : ¬ F.B a) : Rel F (off O a) ρ σ H where
  len := R.len
  b0 := fun b h => ⟨R.b0 b h, fun e => hb (e ▸ h)⟩
  bh := R.bh
  ib := R.ib
  dom := fun b h => R.dom b h.1
  doh := R.doh
  keep := R.keep
  slot := fun i s h => by
    have q := R.slot i s h
    cases s with
    | non => trivial
    | val d =>
      obtain ⟨v, e, q⟩ := q
      exact ⟨v, e, Rep.step off_step d v q⟩
    | own m =>
      obtain ⟨b, e, q1, q2, q3⟩ := q
      exact ⟨b, e, ⟨q1, fun z => ap i _ h rfl (z ▸ e)⟩, q2, q3.step off_step rfl⟩
    | io m =>
      obtain ⟨b, e, q1, q2⟩ := q
      exact ⟨b, e, q1, q2.step off_step rfl⟩
  dist := R.dist

/-! ### results -/
/-- an error: its class, by number, and what it keeps -/
inductive Xc where
  | own (c : Nat) (fs : List (Str × D)) | ty (n : String)
inductive Rs (α : Type) where
  | ok (a : α) (ρ : En) | exc (x : Xc) (ρ : En) | stuck
def Rs.bind {α β : Type} (r : Rs α) (f : α → En → Rs β) : Rs β := match r with
  | .ok a ρ => f a ρ
  | .exc x ρ => .exc x ρ
  | .stuck => .stuck
/-- a value, and whether it is new and nobody else's -/
abbrev Vl := D × Bool
abbrev ME := En → Rs Vl

def VlAt (w : Wd) (σ : St) (H : Hp) (ρ' : En) (O' : Av) (H' : Hp) (v : V) (x : Vl) : Prop := match x.2 with
  | false => Rep w O' H' x.1 v
  | true => ∃ a m, v = .ref a ∧ H a = none ∧ O' a ∧ m.is x.1 ∧ MuAt w O' H' a m ∧ Apart ρ' σ a

def XcAt (w : Wd) (O : Av) (H : Hp) (cls : Value) (d : Option Addr) : Xc → Prop
  | .own c fs => cls = .ref (w.cl c) ∧ match fs with
    | [] => d = none
    | f :: fs => ∃ a vs, d = some a ∧ ¬ O a ∧ H a = some (.xd (((f :: fs).map (·.1)).zip vs)) ∧ RepL w O H ((f :: fs).map (·.2)) vs
  | .ty n => cls = .type n ∧ d = none

/-- what must hold behind a result; RA: how the machine's answer tells the result's -/
def Hold {α β : Type} (F : Fr) (W : WX) (O : Av) (σ : St) (H : Hp) (RA : En → Av → Hp → β → α → Prop) (Q : β → Hp → Prop) : Rs α → Prop
  | .ok a ρ' => ∀ O' H' b, Step O H O' H' → Rel F O' ρ' σ H' → RA ρ' O' H' b a → Q b H'
  | .exc x ρ' => ∀ O' H' cls d, Step O H O' H' → Rel F O' ρ' σ H' → XcAt F.w O' H' cls d x → W cls d σ H'
  | .stuck => False

theorem Hold.later {α β : Type} {F : Fr} {W : WX} {O O1 : Av} {σ : St} {H H1 : Hp} {RA RB : En → Av → Hp → β → α → Prop} {Q : β → Hp → Prop} (s : Step O H O1 H1) (m : ∀ ρ' O' H' b a, Step O1 H1 O' H' → RB ρ' O' H' b a → RA ρ' O' H' b a) :
    ∀ {r : Rs α}, Hold F W O σ H RA Q r → Hold F W O1 σ H1 RB Q r
  | .ok a ρ', h => fun O' H' b st R ra => h O' H' b (s.trans st) R (m ρ' O' H' b a st ra)
  | .exc x ρ', h => fun O' H' cls d st R xa => h O' H' cls d (s.trans st) R xa
  | .stuck, h => h

/-- a value's answer -/
def RV (F : Fr) (σ : St) (H : Hp) : En → Av → Hp → V → Vl → Prop := fun ρ' O' H' v x => VlAt F.w σ H ρ' O' H' v x
theorem Step.none_back {O O1 : Av} {H H1 : Hp} (s : Step O H O1 H1) {p : Addr} (e : H1 p = none) : H p = none := by
  cases q : H p with
  | none => rfl
  | some o => exact absurd e (s.dom p (by rw [q]; simp))
theorem VlAt.later {w : Wd} {σ : St} {ρ' : En} {O O1 : Av} {H H1 : Hp} (s : Step O H O1 H1) {O' : Av} {H' : Hp} {v : V} : ∀ {x : Vl}, VlAt w σ H1 ρ' O' H' v x → VlAt w σ H ρ' O' H' v x
  | (d, false), h => h
  | (d, true), ⟨p, m, e1, e2, e3⟩ => ⟨p, m, e1, s.none_back e2, e3⟩
theorem RV.later {F : Fr} {σ : St} {O : Av} {H : Hp} {O1 : Av} {H1 : Hp} (s : Step O H O1 H1) : ∀ ρ' O' H' (b : V) (a : Vl), Step O1 H1 O' H' → RV F σ H1 ρ' O' H' b a → RV F σ H ρ' O' H' b a := fun ρ' O' H' b a _ h => VlAt.later s h
theorem Hold.laterV {F : Fr} {W : WX} {O O1 : Av} {σ : St} {H H1 : Hp} {Q : VK} {r : Rs Vl} (h : Hold F W O σ H (RV F σ H) Q r) (s : Step O H O1 H1) : Hold F W O1 σ H1 (RV F σ H1) Q r := h.later s (RV.later s)
/-- given away -/
theorem VlAt.release {F : Fr} {σ : St} {ρ' : En} {O O' : Av} {H H' : Hp} {v : V} (st : Step O H O' H') (R : Rel F O' ρ' σ H') (dh : ∀ a, F.He a ≠ none → H a ≠ none) : ∀ {x : Vl}, VlAt F.w σ H ρ' O' H' v x →
    ∃ O1, Step O H O1 H' ∧ Rel F O1 ρ' σ H' ∧ Rep F.w O1 H' x.1 v ∧ Step O' H' O1 H'
  | (d, false), h => ⟨O', st, R, h, Step.refl _ _⟩
  | (d, true), ⟨a, m, e1, e2, e3, e4, e5, e6⟩ => by
    subst e1
    have hb : ¬ F.B a := fun q => dh a (R.bh a q) e2
    exact ⟨off O' a, st.trans off_step, R.release e6 hb, (e5.step off_step rfl).rep (fun q => q.2 rfl) e4, off_step⟩

/-- te does what m says -/
def Sim (w : Wd) (W : WX) (te : TE) (m : ME) : Prop := ∀ (F : Fr) (O : Av) (ρ : En) (σ : St) (H : Hp) (Q : VK), F.w = w → Rel F O ρ σ H → Hold F W O σ H (RV F σ H) Q (m ρ) → te σ H Q

/-- one after the other, the first one's value as it is -/
theorem Sim.bindF {w : Wd} {W : WX} {ta : TE} {ma : ME} (ha : Sim w W ta ma) {F : Fr} {O : Av} {ρ : En} {σ : St} {H : Hp} (hw : F.w = w) (R : Rel F O ρ σ H) {α β : Type} {RA : En → Av → Hp → β → α → Prop} {Q : β → Hp → Prop} {f : Vl → En → Rs α}
    (h : Hold F W O σ H RA Q ((ma ρ).bind f)) {k : V → Hp → Prop}
    (hk : ∀ (x : Vl) (v : V) (ρ1 : En) (O1 : Av) (H1 : Hp), Step O H O1 H1 → Rel F O1 ρ1 σ H1 → VlAt F.w σ H ρ1 O1 H1 v x → Hold F W O σ H RA Q (f x ρ1) → k v H1) : ta σ H k := by
  refine ha F O ρ σ H k hw R ?_
  cases e : ma ρ with
  | ok x ρ1 =>
    rw [e] at h
    exact fun O1 H1 v st R1 rv => hk x v ρ1 O1 H1 st R1 rv h
  | exc x ρ1 =>
    rw [e] at h
    exact fun O1 H1 cls d st R1 xa => h O1 H1 cls d st R1 xa
  | stuck =>
    rw [e] at h
    exact h
/-- .. as data -/
theorem Sim.bind {w : Wd} {W : WX} {ta : TE} {ma : ME} (ha : Sim w W ta ma) {F : Fr} {O : Av} {ρ : En} {σ : St} {H : Hp} (hw : F.w = w) (R : Rel F O ρ σ H) {α β : Type} {RA : En → Av → Hp → β → α → Prop} {Q : β → Hp → Prop} {f : Vl → En → Rs α}
    (h : Hold F W O σ H RA Q ((ma ρ).bind f)) {k : V → Hp → Prop}
    (hk : ∀ (x : Vl) (v : V) (ρ1 : En) (O1 : Av) (H1 : Hp), Step O H O1 H1 → Rel F O1 ρ1 σ H1 → Rep F.w O1 H1 x.1 v → Hold F W O σ H RA Q (f x ρ1) → k v H1) : ta σ H k :=
  ha.bindF hw R h fun x v ρ1 O1 H1 st R1 rv h1 => by
    obtain ⟨O2, s2, R2, r2, _⟩ := VlAt.release st R1 R.doh rv
    exact hk x v ρ1 O2 H1 s2 R2 r2 h1

/-- an expression's judgement: the machine runs as m says -/
def PM (X : Cx) (w : Wd) (W : WX) (e : Expr) (m : ME) : Prop := ∃ te, PE X e te ∧ Sim w W te m
end PM

namespace PM
open PySem L2

/-! ### the heap grows -/
def Grow (H H' : Hp) : Prop := ∀ a o, H a = some o → H' a = some o
theorem Grow.refl (H : Hp) : Grow H H := fun _ _ h => h
theorem Grow.trans {H H1 H2 : Hp} (a : Grow H H1) (b : Grow H1 H2) : Grow H H2 := fun x o h => b x o (a x o h)
theorem Grow.new {H : Hp} {p : Addr} {o : HO} (h : H p = none) : Grow H (upd H p o) := fun a u e => by
  rw [upd_ne (ne_of_none e h)]
  exact e
theorem Grow.dom {H H' : Hp} (g : Grow H H') {a : Addr} (h : H a ≠ none) : H' a ≠ none := by
  cases e : H a with
  | none => exact absurd e h
  | some o => rw [g a o e]; simp
theorem Grow.step {O : Av} {H H' : Hp} (g : Grow H H') : Step O H O H' := ⟨fun _ h => .inl h, fun a o _ e => g a o e, fun _ h => g.dom h⟩
theorem Grow.back {H H' : Hp} (g : Grow H H') {a : Addr} (h : H' a = none) : H a = none := by
  cases e : H a with
  | none => rfl
  | some o => rw [g a o e] at h; cases h
theorem MuAt.grow {w : Wd} {O : Av} {H H' : Hp} (g : Grow H H') {a : Addr} : ∀ {m : Mu}, MuAt w O H a m → MuAt w O H' a m
  | .lst ds, ⟨vs, h1, h2⟩ => ⟨vs, g _ _ h1, RepL.step g.step ds vs h2⟩
  | .dct ks ds, ⟨kvs, h1, h2, h3⟩ => ⟨kvs, g _ _ h1, h2, RepL.step g.step ds _ h3⟩
  | .ins c fs, ⟨dx, vs, h1, h2, h3, h4, h5⟩ => ⟨dx, vs, g _ _ h1, h2, h3, g _ _ h4, RepO.step g.step fs vs h5⟩
theorem SlAt.grow {F : Fr} {O : Av} {H H' : Hp} (g : Grow H H') : ∀ {i : Nat} {s : Sl} {o : Option (Option V)}, SlAt F O H i s o → SlAt F O H' i s o
  | _, .non, _, h => h
  | _, .val d, _, ⟨v, e, h⟩ => ⟨v, e, Rep.step g.step d v h⟩
  | _, .own m, _, ⟨a, e, h1, h2, h3⟩ => ⟨a, e, h1, h2, h3.grow g⟩
  | _, .io m, _, ⟨a, e, h1, h2⟩ => ⟨a, e, h1, h2.grow g⟩
theorem Rel.grow {F : Fr} {O : Av} {ρ : En} {σ : St} {H H' : Hp} (R : Rel F O ρ σ H) (g : Grow H H') : Rel F O ρ σ H' :=
  ⟨R.len, R.b0, R.bh, R.ib, fun a h => g.dom (R.dom a h), fun a h => g.dom (R.doh a h), fun a o h n => g a o (R.keep a o h n), fun i s h => (R.slot i s h).grow g, R.dist⟩

theorem Rel.guard {F : Fr} {O : Av} {ρ : En} {σ : St} {H H' : Hp} (R : Rel F O ρ σ H) (g : Grow H H') {a : Addr} (h : H a = none) (h' : H' a ≠ none) : Rel F (ins O a) ρ σ H' := by
  have st : Step O H (ins O a) H' := ⟨fun b q => q.elim .inl fun e => .inr (e ▸ h), fun b o _ e => g b o e, fun _ e => g.dom e⟩
  refine ⟨R.len, fun b q => .inl (R.b0 b q), R.bh, R.ib, fun b q => q.elim (fun q => g.dom (R.dom b q)) (fun e => e ▸ h'), fun b q => g.dom (R.doh b q), fun b o q n => g b o (R.keep b o q n), fun i s e => ?_, R.dist⟩
  have q := R.slot i s e
  cases s with
  | non => trivial
  | val d =>
    obtain ⟨v, e, q⟩ := q
    exact ⟨v, e, Rep.step st d v q⟩
  | own m =>
    obtain ⟨b, e, q1, q2, q3⟩ := q
    cases z : H b with
    | none => exact absurd z q3.some
    | some o => exact ⟨b, e, .inl q1, q2, q3.step st ((g b o z).trans z.symm)⟩
  | io m =>
    obtain ⟨b, e, q1, q3⟩ := q
    cases z : H b with
    | none => exact absurd z q3.some
    | some o => exact ⟨b, e, q1, q3.step st ((g b o z).trans z.symm)⟩
theorem Rel.apart {F : Fr} {O : Av} {ρ : En} {σ : St} {H : Hp} (R : Rel F O ρ σ H) {a : Addr} (h : H a = none) : Apart ρ σ a := fun i s e hm q => by
  have z := R.slot i s e
  cases s with
  | non => cases hm
  | val d => cases hm
  | own m =>
    obtain ⟨b, e, q1, q2, q3⟩ := z
    rw [q] at e
    cases e
    exact q3.some h
  | io m =>
    obtain ⟨b, e, q1, q3⟩ := z
    rw [q] at e
    cases e
    exact q3.some h

/-! ### what a value-level rule must tell -/
def GoAt (w : Wd) (O : Av) (H H' : Hp) (v : V) (z : Vl) : Prop := match z.2 with
  | false => Rep w O H' z.1 v
  | true => ∃ a m, v = .ref a ∧ H a = none ∧ m.is z.1 ∧ MuAt w (ins O a) H' a m
/-- the way on from a grown heap -/
def Go (w : Wd) (O : Av) (H : Hp) (z : Vl) (Q : VK) : Prop := ∀ v H', Grow H H' → GoAt w O H H' v z → Q v H'
theorem Go.val {w : Wd} {O : Av} {H : Hp} {d : D} {Q : VK} (g : Go w O H (d, false) Q) {v : V} (h : Rep w O H d v) : Q v H := g v H (Grow.refl H) h
theorem Go.later {w : Wd} {O : Av} {H H1 : Hp} {Q : VK} (s : Grow H H1) : ∀ {z : Vl}, Go w O H z Q → Go w O H1 z Q
  | (d, false), g => fun v H' g' h => g v H' (s.trans g') h
  | (d, true), g => fun v H' g' h => g v H' (s.trans g') (by
    obtain ⟨a, m, e1, e2, e3⟩ := h
    exact ⟨a, m, e1, s.back e2, e3⟩)
theorem ins_step {O : Av} {H H' : Hp} (g : Grow H H') {p : Addr} (hp : H p = none) : Step O H (ins O p) H' := ⟨fun b q => q.elim .inl fun e => .inr (e ▸ hp), fun b o _ e => g b o e, fun _ e => g.dom e⟩
/-- a new list, a new tuple -/
theorem Go.newL {w : Wd} {O : Av} {H : Hp} {ds : List D} {Q : VK} (g : Go w O H (.lst ds, true) Q) {vs : List V} (h : RepL w O H ds vs) {p : Addr} (hp : H p = none) : Q (.ref p) (upd H p (.lst vs)) :=
  g _ _ (Grow.new hp) ⟨p, .lst ds, rfl, hp, rfl, ⟨vs, upd_same, RepL.step (ins_step (Grow.new hp) hp) ds vs h⟩⟩
theorem Go.newT {w : Wd} {O : Av} {H : Hp} {ds : List D} {Q : VK} (g : Go w O H (.tup ds, false) Q) (dm : ∀ a, O a → H a ≠ none) {vs : List V} (h : RepL w O H ds vs) {p : Addr} (hp : H p = none) : Q (.ref p) (upd H p (.tup vs)) := by
  refine g _ _ (Grow.new hp) ?_
  show Rep w O _ (.tup ds) (.ref p)
  simp only [Rep]
  exact ⟨p, vs, rfl, .inl ⟨fun q => dm p q hp, upd_same⟩, RepL.step (Grow.new hp).step ds vs h⟩
def Dm (O : Av) (H : Hp) : Prop := ∀ a, O a → H a ≠ none
def Op2 (w : Wd) (r : R2) (f : D → D → Option Vl) : Prop := ∀ (O : Av) (H : Hp) (x y : D) (z : Vl) (vx vy : V) (Q : VK), Dm O H → f x y = some z → Rep w O H x vx → Rep w O H y vy → Go w O H z Q → r vx vy H Q
def Op1 (w : Wd) (r : V → Hp → VK → Prop) (f : D → Option Vl) : Prop := ∀ (O : Av) (H : Hp) (x : D) (z : Vl) (vx : V) (Q : VK), Dm O H → f x = some z → Rep w O H x vx → Go w O H z Q → r vx H Q
def OpN (w : Wd) (r : List V → Hp → VK → Prop) (f : List D → Option Vl) : Prop := ∀ (O : Av) (H : Hp) (xs : List D) (z : Vl) (vs : List V) (Q : VK), Dm O H → f xs = some z → RepL w O H xs vs → Go w O H z Q → r vs H Q
/-- a rule's end: the heap has grown -/
theorem Hold.go {F : Fr} {W : WX} {O O1 : Av} {σ : St} {H H1 : Hp} {ρ1 : En} {Q : VK} : ∀ {z : Vl}, Hold F W O σ H (RV F σ H) Q (.ok z ρ1) → Step O H O1 H1 → Rel F O1 ρ1 σ H1 → Go F.w O1 H1 z Q
  | (d, false), h, st, R => fun v H' g rv => h O1 H' v (st.trans g.step) (R.grow g) rv
  | (d, true), h, st, R => fun v H' g rv => by
    obtain ⟨a, m, e1, e2, e3, e4⟩ := rv
    exact h (ins O1 a) H' v (st.trans (ins_step g e2)) (R.guard g e2 e4.some) ⟨a, m, e1, st.none_back e2, .inr rfl, e3, e4, R.apart e2⟩

/-! ### the plain forms -/
def mC (d : D) : ME := fun ρ => .ok (d, false) ρ
def mVar (i : Nat) : ME := fun ρ => match ρ[i]? with
  | some (.val d) => .ok (d, false) ρ
  | _ => .stuck
def lift {α : Type} (o : Option α) (ρ : En) : Rs α := match o with
  | some z => .ok z ρ
  | none => .stuck
def mOp2 (f : D → D → Option Vl) (ma mb : ME) : ME := fun ρ => (ma ρ).bind fun x ρ1 => (mb ρ1).bind fun y ρ2 => lift (f x.1 y.1) ρ2
def mOp1 (f : D → Option Vl) (ma : ME) : ME := fun ρ => (ma ρ).bind fun x ρ1 => lift (f x.1) ρ1

section
variable {w : Wd} {W : WX} {X : Cx} {pos : Pos} {a b : Expr} {ma mb : ME} {ta tb : TE}
theorem sim_c {v : V} {d : D} (h : ∀ O H, Rep w O H d v) : Sim w W (tC v) (mC d) := fun F O ρ σ H Q e R hh => by
  subst e
  exact (hh.go (Step.refl O H) R).val (h O H)
theorem pm_int {i : Int} {j} : PM X w W (.Constant (.int i) j pos) (mC (.int i)) := ⟨_, pe_int, sim_c fun O H => by simp only [Rep]⟩
theorem pm_str {x : Str} {j} : PM X w W (.Constant (.str x) j pos) (mC (.str x)) := ⟨_, pe_str, sim_c fun O H => by simp only [Rep]⟩
theorem pm_bl {x : Bool} {j} : PM X w W (.Constant (.bool x) j pos) (mC (.bl x)) := ⟨_, pe_bl, sim_c fun O H => by simp only [Rep]⟩
theorem pm_non {j} : PM X w W (.Constant .none j pos) (mC .non) := ⟨_, pe_non, sim_c fun O H => by simp only [Rep]⟩
theorem pm_gint {x : Str} {i : Int} {t : Tok} (hg : Gl X x) (hm : X.mg x = some (.int i t)) (hd : (x == ("__debug__" : Str)) = false := by decide) : PM X w W (.Name x pos) (mC (.int i)) := ⟨_, pe_glob hg hm (v := .int i) ⟨t, rfl⟩ hd, sim_c fun O H => by simp only [Rep]⟩
theorem pm_gstr {x : Str} {i : Str} {t : Tok} (hg : Gl X x) (hm : X.mg x = some (.str i t)) (hd : (x == ("__debug__" : Str)) = false := by decide) : PM X w W (.Name x pos) (mC (.str i)) := ⟨_, pe_glob hg hm (v := .str i) ⟨t, rfl⟩ hd, sim_c fun O H => by simp only [Rep]⟩
theorem sim_var {i : Nat} : Sim w W (tVar i) (mVar i) := fun F O ρ σ H Q e R hh => by
  subst e
  unfold mVar at hh
  split at hh
  · rename_i d hd
    obtain ⟨v, e1, h1⟩ := R.slot i _ hd
    exact ⟨v, e1, (hh.go (Step.refl O H) R).val h1⟩
  · exact hh.elim
theorem pm_var (i : Nat) {x : Str} (hN : X.N[i]? = some x := by rfl) (hv : Vis X.env.scope x := by first | exact Or.inl rfl | exact Or.inr (Or.inl rfl) | exact Or.inr (Or.inr rfl)) (hd : (x == ("__debug__" : Str)) = false := by decide)
    (hcd : (x == ("__classdict__" : Str)) = false := by decide) : PM X w W (.Name x pos) (mVar i) := ⟨_, pv i hN hv hd hcd, sim_var⟩
theorem sim_op2 {r : R2} {f : D → D → Option Vl} (hl : Op2 w r f) (ha : Sim w W ta ma) (hb : Sim w W tb mb) : Sim w W (tOp r ta tb) (mOp2 f ma mb) := fun F O ρ σ H Q e R hh => by
  subst e
  refine ha.bind rfl R hh fun x v ρ1 O1 H1 st1 R1 rx h1 => ?_
  have h1' : Hold F W O1 σ H1 (RV F σ H1) Q ((mb ρ1).bind fun y ρ2 => lift (f x.1 y.1) ρ2) := h1.later st1 (RV.later st1)
  refine hb.bind rfl R1 h1' fun y u ρ2 O2 H2 st2 R2 ry h2 => ?_
  cases e : f x.1 y.1 with
  | none => rw [e] at h2; exact h2.elim
  | some z =>
    rw [e] at h2
    exact hl O2 H2 x.1 y.1 z v u Q R2.dom e (Rep.step st2 _ _ rx) ry (h2.go st2 R2)
theorem sim_op1 {r : V → Hp → VK → Prop} {f : D → Option Vl} (hl : Op1 w r f) (ha : Sim w W ta ma) : Sim w W (tUn r ta) (mOp1 f ma) := fun F O ρ σ H Q e R hh => by
  subst e
  refine ha.bind rfl R hh fun x v ρ1 O1 H1 st1 R1 rx h1 => ?_
  cases e : f x.1 with
  | none => rw [e] at h1; exact h1.elim
  | some z =>
    rw [e] at h1
    exact hl O1 H1 x.1 z v Q R1.dom e rx (h1.go st1 R1)
theorem pm_bin {op : Operator} {r : R2} {f : D → D → Option Vl} (ho : OpR X (binaryOp op) r) (hl : Op2 w r f) (ha : PM X w W a ma) (hb : PM X w W b mb) : PM X w W (.BinOp a op b pos) (mOp2 f ma mb) := by
  obtain ⟨ta, pa, sa⟩ := ha
  obtain ⟨tb, pb, sb⟩ := hb
  exact ⟨_, pe_op ho pa pb, sim_op2 hl sa sb⟩
theorem pm_un {op : UnaryOp} {r : V → Hp → VK → Prop} {f : D → Option Vl} (ho : UnR X (unaryOp op) r) (hl : Op1 w r f) (ha : PM X w W a ma) : PM X w W (.UnaryOp op a pos) (mOp1 f ma) := by
  obtain ⟨ta, pa, sa⟩ := ha
  exact ⟨_, pe_un ho pa, sim_op1 hl sa⟩
theorem pm_cmp {op : CmpOp} {r : R2} {f : D → D → Option Vl} (ho : OpR X (compareOp op) r) (hl : Op2 w r f) (ha : PM X w W a ma) (hb : PM X w W b mb) (hm : behindInMarks op b = false) : PM X w W (.Compare a [op] [b] pos) (mOp2 f ma mb) := by
  obtain ⟨ta, pa, sa⟩ := ha
  obtain ⟨tb, pb, sb⟩ := hb
  exact ⟨_, pe_cmpR ho pa pb hm, sim_op2 hl sa sb⟩
theorem pm_ix {r : R2} {f : D → D → Option Vl} (ho : IxR X r) (hl : Op2 w r f) (ha : PM X w W a ma) (hb : PM X w W b mb) (hs : PlainIx b) : PM X w W (.Subscript a b pos) (mOp2 f ma mb) := by
  obtain ⟨ta, pa, sa⟩ := ha
  obtain ⟨tb, pb, sb⟩ := hb
  exact ⟨_, pe_ix ho pa pb hs, sim_op2 hl sa sb⟩
end

/-! ### arguments -/
abbrev MA := En → Rs (List D)
def VlsAt (w : Wd) (ρ' : En) (O' : Av) (H' : Hp) (vs : List V) (xs : List D) : Prop := RepL w O' H' xs vs
def SimA (w : Wd) (W : WX) (ta : TA) (m : MA) : Prop := ∀ (F : Fr) (O : Av) (ρ : En) (σ : St) (H : Hp) (Q : List V → Hp → Prop), F.w = w → Rel F O ρ σ H → Hold F W O σ H (VlsAt F.w) Q (m ρ) → ta σ H Q
def PMA (X : Cx) (w : Wd) (W : WX) (es : List Expr) (m : MA) : Prop := ∃ t, PA X es t ∧ SimA w W t m
def mNil : MA := fun ρ => .ok [] ρ
def mCons (ma : ME) (mr : MA) : MA := fun ρ => (ma ρ).bind fun x ρ1 => (mr ρ1).bind fun xs ρ2 =>   .ok (x.1 :: xs) ρ2
theorem SimA.bind {w : Wd} {W : WX} {ta : TA} {ma : MA} (ha : SimA w W ta ma) {F : Fr} {O : Av} {ρ : En} {σ : St} {H : Hp} (hw : F.w = w) (R : Rel F O ρ σ H) {α β : Type} {RA : En → Av → Hp → β → α → Prop} {Q : β → Hp → Prop} {f : List D → En → Rs α}
    (h : Hold F W O σ H RA Q ((ma ρ).bind f)) {k : List V → Hp → Prop}
    (hk : ∀ (xs : List D) (vs : List V) (ρ1 : En) (O1 : Av) (H1 : Hp), Step O H O1 H1 → Rel F O1 ρ1 σ H1 → RepL F.w O1 H1 xs vs → Hold F W O σ H RA Q (f xs ρ1) → k vs H1) : ta σ H k := by
  refine ha F O ρ σ H k hw R ?_
  cases e : ma ρ with
  | ok x ρ1 =>
    rw [e] at h
    exact fun O1 H1 v st R1 rv => hk x v ρ1 O1 H1 st R1 rv h
  | exc x ρ1 =>
    rw [e] at h
    exact fun O1 H1 cls d st R1 xa => h O1 H1 cls d st R1 xa
  | stuck =>
    rw [e] at h
    exact h
def mCall (f : List D → Option Vl) (ma : MA) : ME := fun ρ => (ma ρ).bind fun xs ρ1 => lift (f xs) ρ1
section
variable {w : Wd} {W : WX} {X : Cx} {pos p : Pos} {e : Expr} {es : List Expr} {ma : ME} {mr : MA} {ta : TE} {tr : TA}
theorem sima_nil : SimA w W tNil mNil := fun F O ρ σ H Q e R hh => hh O H [] (Step.refl O H) R (by simp [VlsAt, RepL])
theorem sima_cons (ha : Sim w W ta ma) (hr : SimA w W tr mr) : SimA w W (tCons ta tr) (mCons ma mr) := fun F O ρ σ H Q e R hh => by
  subst e
  refine ha.bind rfl R hh fun x v ρ1 O1 H1 st1 R1 rx h1 => ?_
  refine hr.bind rfl R1 (h1.later st1 (RB := VlsAt F.w) fun _ _ _ _ _ _ q => q) fun xs vs ρ2 O2 H2 st2 R2 rs h2 => ?_
  refine h2 O2 H2 (v :: vs) st2 R2 ?_
  show RepL _ _ _ (x.1 :: xs) (v :: vs)
  simp only [RepL]
  exact ⟨v, vs, rfl, Rep.step st2 _ _ rx, rs⟩
theorem pma_nil : PMA X w W [] mNil := ⟨_, pa_nil, sima_nil⟩
theorem pma_cons (ha : PM X w W e ma) (hr : PMA X w W es mr) (hs : starEach (e :: es) X.env = (false, eval e X.env) :: starEach es X.env := by rfl) : PMA X w W (e :: es) (mCons ma mr) := by
  obtain ⟨ta, pa, sa⟩ := ha
  obtain ⟨tr, pr, sr⟩ := hr
  exact ⟨_, pa_cons pa pr hs, sima_cons sa sr⟩
theorem sim_call {r : List V → Hp → VK → Prop} {f : List D → Option Vl} (hl : OpN w r f) (ha : SimA w W tr mr) : Sim w W (tCB r tr) (mCall f mr) := fun F O ρ σ H Q e R hh => by
  subst e
  refine ha.bind rfl R hh fun xs vs ρ1 O1 H1 st1 R1 rs h1 => ?_
  cases e : f xs with
  | none => rw [e] at h1; exact h1.elim
  | some z =>
    rw [e] at h1
    exact hl O1 H1 _ z vs Q R1.dom e rs (h1.go st1 R1)
theorem pm_callB {id : String} {x : Str} {r : List V → Hp → VK → Prop} {f : List D → Option Vl} (hc : CallR X (.builtin id) r) (hl : OpN w r f) (hg : Gl X x) (hm : X.mg x = none) (hv : bootBuiltins x = some (.builtin id)) (ha : PMA X w W (e :: es) mr) (hn : x ≠ "__name__" := by decide) (hdb : (x == ("__debug__" : Str)) = false := by decide)
    (he : starEach (e :: es) X.env = (false, eval e X.env) :: starEach es X.env := by rfl) (hpl : (backTo pos (starEach es X.env)).any (·.1) = false := by rfl) : PM X w W (.Call (.Name x p) (e :: es) [] pos) (mCall f mr) := by
  obtain ⟨tr, pr, sr⟩ := ha
  exact ⟨_, pe_callB hc hg hm hv pr hn hdb he hpl, sim_call hl sr⟩
theorem pm_callTy {T : String} {x : Str} {r : List V → Hp → VK → Prop} {f : List D → Option Vl} (hc : CallR X (.type T) r) (hl : OpN w r f) (hg : Gl X x) (hm : X.mg x = none) (hv : bootBuiltins x = some (.type T)) (ha : PMA X w W (e :: es) mr) (hn : x ≠ "__name__" := by decide) (hdb : (x == ("__debug__" : Str)) = false := by decide)
    (he : starEach (e :: es) X.env = (false, eval e X.env) :: starEach es X.env := by rfl) (hpl : (backTo pos (starEach es X.env)).any (·.1) = false := by rfl) : PM X w W (.Call (.Name x p) (e :: es) [] pos) (mCall f mr) := by
  obtain ⟨tr, pr, sr⟩ := ha
  exact ⟨_, pe_callTy hc hg hm hv pr hn hdb he hpl, sim_call hl sr⟩
end
end PM

namespace PM
open PySem L2

/-! ### tests -/
abbrev MT := En → Rs Bool
def RBl : En → Av → Hp → Bool → Bool → Prop := fun _ _ _ b a => b = a
def SimT (w : Wd) (W : WX) (tt : TT) (m : MT) : Prop := ∀ (F : Fr) (O : Av) (ρ : En) (σ : St) (H : Hp) (Q : Bool → Hp → Prop), F.w = w → Rel F O ρ σ H → Hold F W O σ H RBl Q (m ρ) → tt σ H Q
def PMT (X : Cx) (w : Wd) (W : WX) (e : Expr) (m : MT) : Prop := ∃ t, PT X e t ∧ SimT w W t m
def PMW (X : Cx) (w : Wd) (W : WX) (e : Expr) (m : MT) : Prop := ∃ t, PW X e t ∧ SimT w W t m
theorem SimT.bind {w : Wd} {W : WX} {ta : TT} {ma : MT} (ha : SimT w W ta ma) {F : Fr} {O : Av} {ρ : En} {σ : St} {H : Hp} (hw : F.w = w) (R : Rel F O ρ σ H) {α β : Type} {RA : En → Av → Hp → β → α → Prop} {Q : β → Hp → Prop} {f : Bool → En → Rs α}
    (h : Hold F W O σ H RA Q ((ma ρ).bind f)) {k : Bool → Hp → Prop}
    (hk : ∀ (x : Bool) (ρ1 : En) (O1 : Av) (H1 : Hp), Step O H O1 H1 → Rel F O1 ρ1 σ H1 → Hold F W O σ H RA Q (f x ρ1) → k x H1) : ta σ H k := by
  refine ha F O ρ σ H k hw R ?_
  cases e : ma ρ with
  | ok x ρ1 =>
    rw [e] at h
    intro O1 H1 v st R1 rv
    have rv : v = x := rv
    subst rv
    exact hk v ρ1 O1 H1 st R1 h
  | exc x ρ1 =>
    rw [e] at h
    exact fun O1 H1 cls d st R1 xa => h O1 H1 cls d st R1 xa
  | stuck =>
    rw [e] at h
    exact h
def asB : D → Option Bool
  | .bl b => some b
  | _ => none
def mTest (m : ME) : MT := fun ρ => (m ρ).bind fun x ρ1 => lift (asB x.1) ρ1
def mAnd (a b : MT) : MT := fun ρ => (a ρ).bind fun x ρ1 => if x = true then b ρ1 else .ok false ρ1
def mOr (a b : MT) : MT := fun ρ => (a ρ).bind fun x ρ1 => if x = true then .ok true ρ1 else b ρ1
def mNot (a : MT) : MT := fun ρ => (a ρ).bind fun x ρ1 => .ok (!x) ρ1
def mIf (t : MT) (a b : ME) : ME := fun ρ => (t ρ).bind fun x ρ1 => if x = true then a ρ1 else b ρ1
/-- .. as values -/
def mAndV (a b : ME) : ME := fun ρ => (a ρ).bind fun x ρ1 => match asB x.1 with
  | some true => b ρ1
  | some false => .ok (.bl false, false) ρ1
  | none => .stuck
def mOrV (a b : ME) : ME := fun ρ => (a ρ).bind fun x ρ1 => match asB x.1 with
  | some true => .ok (.bl true, false) ρ1
  | some false => b ρ1
  | none => .stuck
def notD (d : D) : Option Vl := (asB d).map fun b => (.bl (!b), false)
def mNotV (a : ME) : ME := mOp1 notD a
/-- a op b op' c -/
def mChain (f g : D → D → Option Vl) (ma mb mc : ME) : ME := fun ρ => (ma ρ).bind fun x ρ1 => (mb ρ1).bind fun y ρ2 => match f x.1 y.1 with
  | some (.bl true, false) => (mc ρ2).bind fun z ρ3 => lift (g y.1 z.1) ρ3
  | some (.bl false, false) => .ok (.bl false, false) ρ2
  | _ => .stuck
section
variable {w : Wd} {W : WX} {X : Cx} {pos : Pos} {a b c : Expr} {ma mb mc : ME} {ta tb tc : TE} {tt uu : TT} {mt mu : MT} {rest : List Expr}
theorem asB_some {d : D} {b : Bool} (h : asB d = some b) : d = .bl b := by
  cases d <;> simp [asB] at h
  rw [h]
theorem rep_bl {O : Av} {H : Hp} {b : Bool} {v : V} (h : Rep w O H (.bl b) v) : v = .bl b := by simpa only [Rep] using h
theorem simt_test (ha : Sim w W ta ma) : SimT w W (tB ta) (mTest ma) := fun F O ρ σ H Q e R hh => by
  subst e
  refine ha.bind rfl R hh fun x v ρ1 O1 H1 st1 R1 rx h1 => ?_
  cases e : asB x.1 with
  | none => rw [e] at h1; exact h1.elim
  | some b =>
    rw [e] at h1
    rw [asB_some e] at rx
    exact ⟨b, rep_bl rx, h1 O1 H1 b st1 R1 rfl⟩
theorem pmt_val (ha : PM X w W a ma) (he : ∀ whole, isTrue a X.env whole = (do let v ← whole; standAt a.pos; holding [v] (truthy v)) := by intro _; rfl) : PMT X w W a (mTest ma) := by
  obtain ⟨ta, pa, sa⟩ := ha
  exact ⟨_, pt_val pa he, simt_test sa⟩
theorem pmt_cmp {op : CmpOp} {r : R2} {f : D → D → Option Vl} (ho : OpR X (compareOp op) r) (hl : Op2 w r f) (ha : PM X w W a ma) (hb : PM X w W b mb) (hm : behindInMarks op b = false) : PMT X w W (.Compare a [op] [b] pos) (mTest (mOp2 f ma mb)) := by
  obtain ⟨ta, pa, sa⟩ := ha
  obtain ⟨tb, pb, sb⟩ := hb
  exact ⟨_, pt_cmpR ho pa pb hm, simt_test (sim_op2 hl sa sb)⟩
theorem simt_and (ha : SimT w W tt mt) (hb : SimT w W uu mu) : SimT w W (tAnd tt uu) (mAnd mt mu) := fun F O ρ σ H Q e R hh => by
  subst e
  refine ha.bind rfl R hh fun x ρ1 O1 H1 st1 R1 h1 => ?_
  cases x with
  | true => exact iteT (hb F O1 ρ1 σ H1 Q rfl R1 (h1.later st1 fun _ _ _ _ _ _ q => q))
  | false => exact iteF (h1 O1 H1 false st1 R1 rfl)
theorem simt_or (ha : SimT w W tt mt) (hb : SimT w W uu mu) : SimT w W (tOr tt uu) (mOr mt mu) := fun F O ρ σ H Q e R hh => by
  subst e
  refine ha.bind rfl R hh fun x ρ1 O1 H1 st1 R1 h1 => ?_
  cases x with
  | true => exact iteT (h1 O1 H1 true st1 R1 rfl)
  | false => exact iteF (hb F O1 ρ1 σ H1 Q rfl R1 (h1.later st1 fun _ _ _ _ _ _ q => q))
theorem simt_not (ha : SimT w W tt mt) : SimT w W (tNot tt) (mNot mt) := fun F O ρ σ H Q e R hh => by
  subst e
  refine ha.bind rfl R hh fun x ρ1 O1 H1 st1 R1 h1 => ?_
  exact h1 O1 H1 (!x) st1 R1 rfl
theorem pmw_and1 (ha : PMT X w W a mt) : PMW X w W (.BoolOp .And [a] pos) mt := by
  obtain ⟨ta, pa, sa⟩ := ha
  exact ⟨_, pw_and1 pa, sa⟩
theorem pmw_or1 (ha : PMT X w W a mt) : PMW X w W (.BoolOp .Or [a] pos) mt := by
  obtain ⟨ta, pa, sa⟩ := ha
  exact ⟨_, pw_or1 pa, sa⟩
theorem pmw_and (ha : PMT X w W a mt) (hb : PMW X w W (.BoolOp .And (b :: rest) pos) mu) : PMW X w W (.BoolOp .And (a :: b :: rest) pos) (mAnd mt mu) := by
  obtain ⟨ta, pa, sa⟩ := ha
  obtain ⟨tb, pb, sb⟩ := hb
  exact ⟨_, pw_and pa pb, simt_and sa sb⟩
theorem pmw_or (ha : PMT X w W a mt) (hb : PMW X w W (.BoolOp .Or (b :: rest) pos) mu) : PMW X w W (.BoolOp .Or (a :: b :: rest) pos) (mOr mt mu) := by
  obtain ⟨ta, pa, sa⟩ := ha
  obtain ⟨tb, pb, sb⟩ := hb
  exact ⟨_, pw_or pa pb, simt_or sa sb⟩
theorem PMW.pt (h : PMW X w W a mt) : PMT X w W a mt := by
  obtain ⟨t, p, s⟩ := h
  exact ⟨t, p.pt, s⟩
theorem pmt_not (ha : PMT X w W a mt) : PMT X w W (.UnaryOp .Not a pos) (mNot mt) := by
  obtain ⟨ta, pa, sa⟩ := ha
  exact ⟨_, pt_not pa, simt_not sa⟩
theorem sim_if (ht : SimT w W tt mt) (ha : Sim w W ta ma) (hb : Sim w W tb mb) : Sim w W (tIf tt ta tb) (mIf mt ma mb) := fun F O ρ σ H Q e R hh => by
  subst e
  refine ht.bind rfl R hh fun x ρ1 O1 H1 st1 R1 h1 => ?_
  cases x with
  | true => exact iteT (ha F O1 ρ1 σ H1 Q rfl R1 (h1.laterV st1))
  | false => exact iteF (hb F O1 ρ1 σ H1 Q rfl R1 (h1.laterV st1))
theorem pm_if (ht : PMT X w W c mt) (ha : PM X w W a ma) (hb : PM X w W b mb) : PM X w W (.IfExp c a b pos) (mIf mt ma mb) := by
  obtain ⟨tt, pt, st⟩ := ht
  obtain ⟨ta, pa, sa⟩ := ha
  obtain ⟨tb, pb, sb⟩ := hb
  exact ⟨_, pe_ifExp pt pa pb, sim_if st sa sb⟩
theorem Hold.bl {F : Fr} {W : WX} {O O1 : Av} {σ : St} {H H1 : Hp} {ρ1 : En} {Q : VK} {b : Bool} (h : Hold F W O σ H (RV F σ H) Q (.ok (.bl b, false) ρ1)) (st : Step O H O1 H1) (R : Rel F O1 ρ1 σ H1) : Q (.bl b) H1 :=
  (h.go st R).val (by simp only [Rep])
theorem sim_andV (ha : Sim w W ta ma) (hb : Sim w W tb mb) : Sim w W (tAndV ta tb) (mAndV ma mb) := fun F O ρ σ H Q e R hh => by
  subst e
  refine ha.bind rfl R hh fun x v ρ1 O1 H1 st1 R1 rx h1 => ?_
  cases e : asB x.1 with
  | none => rw [e] at h1; exact h1.elim
  | some c =>
    rw [e] at h1
    rw [asB_some e] at rx
    refine ⟨c, rep_bl rx, ?_⟩
    cases c with
    | true => exact iteT (hb F O1 ρ1 σ H1 Q rfl R1 (h1.laterV st1))
    | false => exact iteF (h1.bl st1 R1)
theorem sim_orV (ha : Sim w W ta ma) (hb : Sim w W tb mb) : Sim w W (tOrV ta tb) (mOrV ma mb) := fun F O ρ σ H Q e R hh => by
  subst e
  refine ha.bind rfl R hh fun x v ρ1 O1 H1 st1 R1 rx h1 => ?_
  cases e : asB x.1 with
  | none => rw [e] at h1; exact h1.elim
  | some c =>
    rw [e] at h1
    rw [asB_some e] at rx
    refine ⟨c, rep_bl rx, ?_⟩
    cases c with
    | true => exact iteT (h1.bl st1 R1)
    | false => exact iteF (hb F O1 ρ1 σ H1 Q rfl R1 (h1.laterV st1))
theorem sim_notV (ha : Sim w W ta ma) : Sim w W (tNotV ta) (mNotV ma) := fun F O ρ σ H Q e R hh => by
  subst e
  refine ha.bind rfl R hh fun x v ρ1 O1 H1 st1 R1 rx h1 => ?_
  unfold notD at h1
  cases e : asB x.1 with
  | none => rw [e] at h1; exact h1.elim
  | some c =>
    rw [e] at h1
    rw [asB_some e] at rx
    exact ⟨c, rep_bl rx, Hold.bl h1 st1 R1⟩
theorem pm_one {op} (ha : PM X w W a ma) : PM X w W (.BoolOp op [a] pos) ma := by
  obtain ⟨ta, pa, sa⟩ := ha
  exact ⟨_, pe_one pa, sa⟩
theorem pm_and (ha : PM X w W a ma) (hb : PM X w W (.BoolOp .And (b :: rest) pos) mb) : PM X w W (.BoolOp .And (a :: b :: rest) pos) (mAndV ma mb) := by
  obtain ⟨ta, pa, sa⟩ := ha
  obtain ⟨tb, pb, sb⟩ := hb
  exact ⟨_, pe_and pa pb, sim_andV sa sb⟩
theorem pm_or (ha : PM X w W a ma) (hb : PM X w W (.BoolOp .Or (b :: rest) pos) mb) : PM X w W (.BoolOp .Or (a :: b :: rest) pos) (mOrV ma mb) := by
  obtain ⟨ta, pa, sa⟩ := ha
  obtain ⟨tb, pb, sb⟩ := hb
  exact ⟨_, pe_or pa pb, sim_orV sa sb⟩
theorem pm_not (ha : PM X w W a ma) : PM X w W (.UnaryOp .Not a pos) (mNotV ma) := by
  obtain ⟨ta, pa, sa⟩ := ha
  exact ⟨_, pe_not pa, sim_notV sa⟩
theorem sim_chain {r r' : R2} {f g : D → D → Option Vl} (hl : Op2 w r f) (hl' : Op2 w r' g) (ha : Sim w W ta ma) (hb : Sim w W tb mb) (hc : Sim w W tc mc) : Sim w W (tChain r r' ta tb tc) (mChain f g ma mb mc) := fun F O ρ σ H Q e R hh => by
  subst e
  refine ha.bind rfl R hh fun x v ρ1 O1 H1 st1 R1 rx h1 => ?_
  refine hb.bind rfl R1 (h1.laterV st1) fun y u ρ2 O2 H2 st2 R2 ry h2 => ?_
  have fin : ∀ k, f x.1 y.1 = some (.bl k, false) → ((k = true → ∀ H3, Grow H2 H3 → tc σ H3 fun w' H4 => r' u w' H4 Q) ∧ (k = false → ∀ H3, Grow H2 H3 → Q (.bl false) H3)) → r v u H2 fun z H3 => ∃ k, z = .bl k ∧ (if k = true then tc σ H3 fun w' H4 => r' u w' H4 Q else Q (.bl false) H3) := fun k e kk =>
    hl O2 H2 x.1 y.1 _ v u _ R2.dom e (Rep.step st2 _ _ rx) ry fun z H3 gr gv => by
      refine ⟨k, rep_bl (w := F.w) (O := O2) (H := H3) gv, ?_⟩
      cases k with
      | true => exact iteT (kk.1 rfl H3 gr)
      | false => exact iteF (kk.2 rfl H3 gr)
  split at h2
  · rename_i e
    refine fin true e ⟨fun _ H3 gr => ?_, fun q => by cases q⟩
    refine hc.bind rfl (R2.grow gr) (h2.laterV (st2.trans gr.step)) fun z u' ρ3 O3 H4 st3 R3 rz h3 => ?_
    cases e : g y.1 z.1 with
    | none => rw [e] at h3; exact h3.elim
    | some zz =>
      rw [e] at h3
      exact hl' O3 H4 y.1 z.1 zz u u' Q R3.dom e (Rep.step (gr.step.trans st3) _ _ ry) rz (h3.go st3 R3)
  · rename_i e
    exact fin false e ⟨fun q => (by cases q), fun _ H3 gr => h2.bl (st2.trans gr.step) (R2.grow gr)⟩
  · exact h2.elim
theorem pm_chain {op op' : CmpOp} {r r' : R2} {f g : D → D → Option Vl} (ho : OpR X (compareOp op) r) (ho' : OpR X (compareOp op') r') (hl : Op2 w r f) (hl' : Op2 w r' g) (ha : PM X w W a ma) (hb : PM X w W b mb) (hc : PM X w W c mc)
    (hm : lastMarks [op, op'] [b, c] = false := by with_unfolding_all rfl) : PM X w W (.Compare a [op, op'] [b, c] pos) (mChain f g ma mb mc) := by
  obtain ⟨ta, pa, sa⟩ := ha
  obtain ⟨tb, pb, sb⟩ := hb
  obtain ⟨tc, pc, sc⟩ := hc
  exact ⟨_, pe_chain ho ho' pa pb pc hm, sim_chain hl hl' sa sb sc⟩
theorem pmt_chain {op op' : CmpOp} {r r' : R2} {f g : D → D → Option Vl} (ho : OpR X (compareOp op) r) (ho' : OpR X (compareOp op') r') (hl : Op2 w r f) (hl' : Op2 w r' g) (ha : PM X w W a ma) (hb : PM X w W b mb) (hc : PM X w W c mc)
    (hm : lastMarks [op, op'] [b, c] = false := by with_unfolding_all rfl) : PMT X w W (.Compare a [op, op'] [b, c] pos) (mTest (mChain f g ma mb mc)) := by
  obtain ⟨ta, pa, sa⟩ := ha
  obtain ⟨tb, pb, sb⟩ := hb
  obtain ⟨tc, pc, sc⟩ := hc
  exact ⟨_, pt_chain ho ho' pa pb pc hm, simt_test (sim_chain hl hl' sa sb sc)⟩

/-! ### displays -/
def mTup (ma : MA) : ME := fun ρ => (ma ρ).bind fun xs ρ1 => if xs.length ≤ sizeLine then .ok (.tup xs, false) ρ1 else .stuck
def mLst (ma : MA) : ME := fun ρ => (ma ρ).bind fun xs ρ1 => if xs.length ≤ sizeLine then .ok (.lst xs, true) ρ1 else .stuck
theorem RepL.length {O : Av} {H : Hp} : ∀ {ds : List D} {vs : List V}, RepL w O H ds vs → vs.length = ds.length
  | [], vs, h => by
    simp only [RepL] at h
    rw [h] <;> rfl
  | d :: ds, vs, h => by
    simp only [RepL] at h
    obtain ⟨v, vs', e, _, h2⟩ := h
    rw [e]
    simp [RepL.length h2]
theorem pm_tup {es : List Expr} {k} {mr : MA} (h : PMA X w W es mr) : PM X w W (.Tuple es k pos) (mTup mr) := by
  obtain ⟨t, p, s⟩ := h
  refine ⟨_, pe_tup p, fun F O ρ σ H Q e R hh => ?_⟩
  subst e
  refine s.bind rfl R hh fun xs vs ρ1 O1 H1 st1 R1 rs h1 => ?_
  split at h1
  · rename_i hz
    exact ⟨by rw [rs.length]; exact hz, fun p hp => (h1.go st1 R1).newT R1.dom rs hp⟩
  · exact h1.elim
theorem pm_lst {es : List Expr} {mr : MA} (h : PMA X w W es mr) : PM X w W (.List es pos) (mLst mr) := by
  obtain ⟨t, p, s⟩ := h
  refine ⟨_, pe_lst p, fun F O ρ σ H Q e R hh => ?_⟩
  subst e
  refine s.bind rfl R hh fun xs vs ρ1 O1 H1 st1 R1 rs h1 => ?_
  split at h1
  · rename_i hz
    exact ⟨by rw [rs.length]; exact hz, fun p hp => (h1.go st1 R1).newL rs hp⟩
  · exact h1.elim
end
end PM

namespace PM
open PySem L2

/-! ### slots change -/
def notIo : Option Sl → Bool
  | some (.io _) => false
  | some _ => true
  | none => false
theorem get_set {α : Type} {l : List α} {i j : Nat} {x y : α} (h : (l.set i x)[j]? = some y) : (i = j ∧ y = x) ∨ (i ≠ j ∧ l[j]? = some y) := by
  by_cases e : i = j
  · subst e
    rw [List.getElem?_set_self'] at h
    cases q : l[i]? with
    | none => rw [q] at h; cases h
    | some z => rw [q] at h; cases h; exact .inl ⟨rfl, rfl⟩
  · rw [List.getElem?_set_ne e] at h
    exact .inr ⟨e, h⟩
theorem lt_of_get {α : Type} {l : List α} {i : Nat} {x : α} (h : l[i]? = some x) : i < l.length := (List.getElem?_eq_some_iff.mp h).1
section
variable {F : Fr} {O : Av} {ρ : En} {σ : St} {H : Hp}
theorem Rel.setV (R : Rel F O ρ σ H) {i : Nat} {d : D} {v : V} (h : Rep F.w O H d v) (hi : notIo (ρ[i]?) = true) : Rel F O (ρ.set i (.val d)) (σ.set i (some v)) H := by
  have hl : i < ρ.length := by
    cases e : ρ[i]? with
    | none => rw [e] at hi; cases hi
    | some s => exact lt_of_get e
  have hs : i < σ.length := by rw [← R.len]; exact hl
  refine ⟨by simp [R.len], R.b0, R.bh, R.ib, R.dom, R.doh, R.keep, fun j s e => ?_, fun j k s t e1 e2 m1 m2 q => ?_⟩
  · rcases get_set e with ⟨e1, e2⟩ | ⟨e1, e2⟩
    · subst e1
      subst e2
      exact ⟨v, List.getElem?_set_self hs, h⟩
    · rw [List.getElem?_set_ne e1]
      exact R.slot j s e2
  · rcases get_set e1 with ⟨a1, a2⟩ | ⟨a1, a2⟩
    · subst a2; cases m1
    · rcases get_set e2 with ⟨b1, b2⟩ | ⟨b1, b2⟩
      · subst b2; cases m2
      · rw [List.getElem?_set_ne a1, List.getElem?_set_ne b1] at q
        exact R.dist j k s t a2 b2 m1 m2 q
theorem Rel.setO (R : Rel F O ρ σ H) {i : Nat} {m : Mu} {a : Addr} (h : MuAt F.w O H a m) (ho : O a) (he : F.He a = none) (ap : Apart ρ σ a) (hi : notIo (ρ[i]?) = true) : Rel F O (ρ.set i (.own m)) (σ.set i (some (.ref a))) H := by
  have hl : i < ρ.length := by
    cases e : ρ[i]? with
    | none => rw [e] at hi; cases hi
    | some s => exact lt_of_get e
  have hs : i < σ.length := by rw [← R.len]; exact hl
  refine ⟨by simp [R.len], R.b0, R.bh, R.ib, R.dom, R.doh, R.keep, fun j s e => ?_, fun j k s t e1 e2 m1 m2 q => ?_⟩
  · rcases get_set e with ⟨e1, e2⟩ | ⟨e1, e2⟩
    · subst e1
      subst e2
      exact ⟨a, List.getElem?_set_self hs, ho, he, h⟩
    · rw [List.getElem?_set_ne e1]
      exact R.slot j s e2
  · rcases get_set e1 with ⟨a1, a2⟩ | ⟨a1, a2⟩
    · rcases get_set e2 with ⟨b1, b2⟩ | ⟨b1, b2⟩
      · exact a1.symm.trans b1
      · subst a1
        rw [List.getElem?_set_self hs, List.getElem?_set_ne b1] at q
        exact absurd q.symm (ap k t b2 m2)
    · rcases get_set e2 with ⟨b1, b2⟩ | ⟨b1, b2⟩
      · subst b1
        rw [List.getElem?_set_self hs, List.getElem?_set_ne a1] at q
        exact absurd q (ap j s a2 m1)
      · rw [List.getElem?_set_ne a1, List.getElem?_set_ne b1] at q
        exact R.dist j k s t a2 b2 m1 m2 q
/-- a slot is emptied -/
theorem Rel.setN (R : Rel F O ρ σ H) {i : Nat} : Rel F O (ρ.set i .non) σ H := by
  refine ⟨by simp [R.len], R.b0, R.bh, R.ib, R.dom, R.doh, R.keep, fun j s e => ?_, fun j k s t e1 e2 m1 m2 q => ?_⟩
  · rcases get_set e with ⟨e1, e2⟩ | ⟨e1, e2⟩
    · subst e2
      trivial
    · exact R.slot j s e2
  · rcases get_set e1 with ⟨a1, a2⟩ | ⟨a1, a2⟩
    · subst a2; cases m1
    · rcases get_set e2 with ⟨b1, b2⟩ | ⟨b1, b2⟩
      · subst b2; cases m2
      · exact R.dist j k s t a2 b2 m1 m2 q
/-- the content of a slot -/
def Sl.get : Sl → Option Mu
  | .own m => some m
  | .io m => some m
  | _ => none
def Sl.put : Sl → Mu → Sl
  | .own _, m => .own m
  | .io _, m => .io m
  | s, _ => s
theorem Rel.muAt (R : Rel F O ρ σ H) {i : Nat} {s : Sl} {m : Mu} (e : ρ[i]? = some s) (h : s.get = some m) : ∃ a, σ[i]? = some (some (.ref a)) ∧ O a ∧ MuAt F.w O H a m := by
  have q := R.slot i s e
  cases s with
  | non => cases h
  | val d => cases h
  | own m' =>
    cases h
    obtain ⟨a, e1, e2, e3, e4⟩ := q
    exact ⟨a, e1, e2, e4⟩
  | io m' =>
    cases h
    obtain ⟨a, e1, e2, e4⟩ := q
    exact ⟨a, e1, R.b0 a (R.ib i a e2), e4⟩
theorem mut_step {a : Addr} {o' : HO} (h : O a) : Step O H O (upd H a o') := ⟨fun _ q => .inl q, fun b o n e => (upd_ne (fun z : b = a => n (by rw [z]; exact h))).trans e, fun b q => by
  by_cases e : b = a
  · subst e; rw [upd_same]; simp
  · rw [upd_ne e]; exact q⟩
theorem Rel.mut (R : Rel F O ρ σ H) {i : Nat} {s : Sl} {m m' : Mu} {a : Addr} {o' : HO} (e : ρ[i]? = some s) (h : s.get = some m) (ea : σ[i]? = some (some (.ref a))) (ho : O a) (h' : MuAt F.w O (upd H a o') a m') :
    Rel F O (ρ.set i (s.put m')) σ (upd H a o') := by
  have st : Step O H O (upd H a o') := mut_step ho
  have hmu : s.mu = true := by cases s <;> first | rfl | cases h
  have hget : ∀ {b : Addr} {o : HO}, H b = some o → b ≠ a → (upd H a o') b = some o := fun q n => by rw [upd_ne n]; exact q
  refine ⟨by simp [R.len], R.b0, R.bh, R.ib, fun b q => st.dom b (R.dom b q), fun b q => st.dom b (R.doh b q), fun b o q n => ?_, fun j t e1 => ?_, fun j k t u e1 e2 m1 m2 q => ?_⟩
  · have hb := R.keep b o q n
    refine hget hb fun z => ?_
    subst z
    have q2 := R.slot i s e
    cases s with
    | non => cases h
    | val d => cases h
    | own m0 =>
      obtain ⟨c, c1, c2, c3, c4⟩ := q2
      rw [ea] at c1
      cases c1
      rw [q] at c3
      cases c3
    | io m0 =>
      obtain ⟨c, c1, c2, c4⟩ := q2
      rw [ea] at c1
      cases c1
      exact n i c2
  · rcases get_set e1 with ⟨a1, a2⟩ | ⟨a1, a2⟩
    · subst a1
      subst a2
      have q2 := R.slot i s e
      cases s with
      | non => cases h
      | val d => cases h
      | own m0 =>
        obtain ⟨c, c1, c2, c3, c4⟩ := q2
        rw [ea] at c1
        cases c1
        exact ⟨a, ea, ho, c3, h'⟩
      | io m0 =>
        obtain ⟨c, c1, c2, c4⟩ := q2
        rw [ea] at c1
        cases c1
        exact ⟨a, ea, c2, h'⟩
    · have q2 := R.slot j t a2
      cases t with
      | non => trivial
      | val d =>
        obtain ⟨v, c1, c2⟩ := q2
        exact ⟨v, c1, Rep.step st d v c2⟩
      | own m0 =>
        obtain ⟨c, c1, c2, c3, c4⟩ := q2
        refine ⟨c, c1, c2, c3, c4.step st (upd_ne fun z => ?_)⟩
        subst z
        exact a1 (R.dist i j s _ e a2 hmu rfl (ea.trans c1.symm))
      | io m0 =>
        obtain ⟨c, c1, c2, c4⟩ := q2
        refine ⟨c, c1, c2, c4.step st (upd_ne fun z => ?_)⟩
        subst z
        exact a1 (R.dist i j s _ e a2 hmu rfl (ea.trans c1.symm))
  · have key : ∀ (j : Nat) (t : Sl), (ρ.set i (s.put m'))[j]? = some t → t.mu = true → ∃ t', ρ[j]? = some t' ∧ t'.mu = true := fun j t e1 m1 => by
      rcases get_set e1 with ⟨a1, a2⟩ | ⟨a1, a2⟩
      · subst a1
        exact ⟨s, e, hmu⟩
      · exact ⟨t, a2, m1⟩
    obtain ⟨t', f1, f2⟩ := key j t e1 m1
    obtain ⟨u', g1, g2⟩ := key k u e2 m2
    exact R.dist j k t' u' f1 g1 f2 g2 q
end

/-! ### statements -/
inductive Fl where
  | nx | rt (v : Vl) | bk | ct
abbrev MS := En → Rs Fl
def RetAt (F : Fr) (O' : Av) (H' : Hp) (v : V) (x : Vl) : Prop := match x.2 with
  | false => Rep F.w O' H' x.1 v
  | true => ∃ a m, v = .ref a ∧ F.He a = none ∧ O' a ∧ m.is x.1 ∧ MuAt F.w O' H' a m
def HoldS (F : Fr) (W : WX) (O : Av) (H : Hp) (E : Ends) : Rs Fl → Prop
  | .ok .nx ρ' => ∀ O' σ' H', Step O H O' H' → Rel F O' ρ' σ' H' → E.nx σ' H'
  | .ok (.rt x) ρ' => ∀ O' σ' H' v, Step O H O' H' → Rel F O' ρ' σ' H' → RetAt F O' H' v x → E.rt v H'
  | .ok .bk ρ' => ∀ O' σ' H', Step O H O' H' → Rel F O' ρ' σ' H' → E.bk σ' H'
  | .ok .ct ρ' => ∀ O' σ' H', Step O H O' H' → Rel F O' ρ' σ' H' → E.ct σ' H'
  | .exc x ρ' => ∀ O' σ' H' cls d, Step O H O' H' → Rel F O' ρ' σ' H' → XcAt F.w O' H' cls d x → W cls d σ' H'
  | .stuck => False
theorem HoldS.later {F : Fr} {W : WX} {O O1 : Av} {H H1 : Hp} {E : Ends} (s : Step O H O1 H1) : ∀ {r : Rs Fl}, HoldS F W O H E r → HoldS F W O1 H1 E r
  | .ok .nx _, h => fun O' σ' H' st R => h O' σ' H' (s.trans st) R
  | .ok (.rt x) _, h => fun O' σ' H' v st R rv => h O' σ' H' v (s.trans st) R rv
  | .ok .bk _, h => fun O' σ' H' st R => h O' σ' H' (s.trans st) R
  | .ok .ct _, h => fun O' σ' H' st R => h O' σ' H' (s.trans st) R
  | .exc _ _, h => fun O' σ' H' cls d st R xa => h O' σ' H' cls d (s.trans st) R xa
  | .stuck, h => h
def SimS (w : Wd) (W : WX) (ts : TS) (m : MS) : Prop := ∀ (F : Fr) (O : Av) (ρ : En) (σ : St) (H : Hp) (E : Ends), F.w = w → Rel F O ρ σ H → HoldS F W O H E (m ρ) → ts E σ H
def PMS (X : Cx) (w : Wd) (W : WX) (st : Stmt) (m : MS) : Prop := ∃ t, PS X st t ∧ SimS w W t m
def PMSs (X : Cx) (w : Wd) (W : WX) (st : List Stmt) (m : MS) : Prop := ∃ t, PSs X st t ∧ SimS w W t m

/-- an expression, then a statement's rest -/
theorem Sim.bindS {w : Wd} {W : WX} {ta : TE} {ma : ME} (ha : Sim w W ta ma) {F : Fr} {O : Av} {ρ : En} {σ : St} {H : Hp} (hw : F.w = w) (R : Rel F O ρ σ H) {E : Ends} {f : Vl → En → Rs Fl} (h : HoldS F W O H E ((ma ρ).bind f)) {k : V → Hp → Prop}
    (hk : ∀ (x : Vl) (v : V) (ρ1 : En) (O1 : Av) (H1 : Hp), Step O H O1 H1 → Rel F O1 ρ1 σ H1 → VlAt F.w σ H ρ1 O1 H1 v x → HoldS F W O1 H1 E (f x ρ1) → k v H1) : ta σ H k := by
  refine ha F O ρ σ H k hw R ?_
  cases e : ma ρ with
  | ok x ρ1 =>
    rw [e] at h
    exact fun O1 H1 v st R1 rv => hk x v ρ1 O1 H1 st R1 rv (h.later st)
  | exc x ρ1 =>
    rw [e] at h
    exact fun O1 H1 cls d st R1 xa => h O1 σ H1 cls d st R1 xa
  | stuck =>
    rw [e] at h
    exact h
theorem SimT.bindS {w : Wd} {W : WX} {ta : TT} {ma : MT} (ha : SimT w W ta ma) {F : Fr} {O : Av} {ρ : En} {σ : St} {H : Hp} (hw : F.w = w) (R : Rel F O ρ σ H) {E : Ends} {f : Bool → En → Rs Fl} (h : HoldS F W O H E ((ma ρ).bind f)) {k : Bool → Hp → Prop}
    (hk : ∀ (x : Bool) (ρ1 : En) (O1 : Av) (H1 : Hp), Step O H O1 H1 → Rel F O1 ρ1 σ H1 → HoldS F W O1 H1 E (f x ρ1) → k x H1) : ta σ H k := by
  refine ha F O ρ σ H k hw R ?_
  cases e : ma ρ with
  | ok x ρ1 =>
    rw [e] at h
    intro O1 H1 v st R1 rv
    have rv : v = x := rv
    subst rv
    exact hk v ρ1 O1 H1 st R1 (h.later st)
  | exc x ρ1 =>
    rw [e] at h
    exact fun O1 H1 cls d st R1 xa => h O1 σ H1 cls d st R1 xa
  | stuck =>
    rw [e] at h
    exact h
theorem SimA.bindS {w : Wd} {W : WX} {ta : TA} {ma : MA} (ha : SimA w W ta ma) {F : Fr} {O : Av} {ρ : En} {σ : St} {H : Hp} (hw : F.w = w) (R : Rel F O ρ σ H) {E : Ends} {f : List D → En → Rs Fl} (h : HoldS F W O H E ((ma ρ).bind f)) {k : List V → Hp → Prop}
    (hk : ∀ (x : List D) (v : List V) (ρ1 : En) (O1 : Av) (H1 : Hp), Step O H O1 H1 → Rel F O1 ρ1 σ H1 → RepL F.w O1 H1 x v → HoldS F W O1 H1 E (f x ρ1) → k v H1) : ta σ H k := by
  refine ha F O ρ σ H k hw R ?_
  cases e : ma ρ with
  | ok x ρ1 =>
    rw [e] at h
    exact fun O1 H1 v st R1 rv => hk x v ρ1 O1 H1 st R1 rv (h.later st)
  | exc x ρ1 =>
    rw [e] at h
    exact fun O1 H1 cls d st R1 xa => h O1 σ H1 cls d st R1 xa
  | stuck =>
    rw [e] at h
    exact h

def mSeq (a b : MS) : MS := fun ρ => match a ρ with
  | .ok .nx ρ1 => b ρ1
  | r => r
def mNext : MS := fun ρ => .ok .nx ρ
def mIfS (t : MT) (a b : MS) : MS := fun ρ => (t ρ).bind fun x ρ1 => if x = true then a ρ1 else b ρ1
def mRet (m : ME) : MS := fun ρ => (m ρ).bind fun x ρ1 => .ok (.rt x) ρ1
def mRetN : MS := fun ρ => .ok (.rt (.non, false)) ρ
/-- return x, x one's own list -/
def mRetO (i : Nat) : MS := fun ρ => match ρ[i]? with
  | some (.own (.lst ds)) => .ok (.rt (.lst ds, true)) (ρ.set i .non)
  | some (.own (.dct ks vs)) => .ok (.rt (.dct ks vs, true)) (ρ.set i .non)
  | _ => .stuck
def mExpr (m : ME) : MS := fun ρ => (m ρ).bind fun _ ρ1 => .ok .nx ρ1
def setV (i : Nat) (d : D) (ρ : En) : Option En := if notIo (ρ[i]?) = true then some (ρ.set i (.val d)) else none
def nxt (o : Option En) : Rs Fl := match o with
  | some ρ => .ok .nx ρ
  | none => .stuck
def mAsg (i : Nat) (m : ME) : MS := fun ρ => (m ρ).bind fun x ρ1 => nxt (setV i x.1 ρ1)
def toMu : Vl → Option Mu
  | (.lst ds, true) => some (.lst ds)
  | (.dct ks vs, true) => some (.dct ks vs)
  | _ => none
def setO (i : Nat) (x : Vl) (ρ : En) : Option En := if notIo (ρ[i]?) = true then (toMu x).map fun m => ρ.set i (.own m) else none
/-- x = e, x one's own list from then on -/
def mAsgO (i : Nat) (m : ME) : MS := fun ρ => (m ρ).bind fun x ρ1 => nxt (setO i x ρ1)
def mDead : MS := fun _ => .stuck
def mBrk : MS := fun ρ => .ok .bk ρ
def mCnt : MS := fun ρ => .ok .ct ρ
/-- a target: a name, several names -/
abbrev MG := D → En → Option En
def gN (i : Nat) : MG := fun d ρ => setV i d ρ
def gTs : List MG → List D → En → Option En
  | [], [], ρ => some ρ
  | g :: gs, d :: ds, ρ => (g d ρ).bind fun ρ1 => gTs gs ds ρ1
  | _, _, _ => none
def gT (gs : List MG) : MG := fun d ρ => match d with
  | .tup ds => gTs gs ds ρ
  | _ => none
def mAsgG (g : MG) (m : ME) : MS := fun ρ => (m ρ).bind fun x ρ1 => nxt (g x.1 ρ1)

theorem toMu_is {x : Vl} {m m' : Mu} (h : toMu x = some m) (e : m'.is x.1) : x.2 = true ∧ m = m' := by
  obtain ⟨d, b⟩ := x
  cases d <;> cases b <;> simp [toMu] at h <;> subst h <;> cases m' <;> simp [Mu.is] at e ⊢ <;> simp [e]
theorem toMu_fr {x : Vl} {m : Mu} (h : toMu x = some m) : x.2 = true := by
  obtain ⟨d, b⟩ := x
  cases d <;> cases b <;> simp [toMu] at h <;> rfl
section
variable {w : Wd} {W : WX} {X : Cx} {pos pos' : Pos} {a b c e : Expr} {ma mb mc m : ME} {ta tb tc te : TE} {tt uu : TT} {mt mu : MT} {st : Stmt} {rest body : List Stmt} {ms mr : MS} {ts tr : TS}
theorem sims_seq (h1 : SimS w W ts ms) (h2 : SimS w W tr mr) : SimS w W (tSeq ts tr) (mSeq ms mr) := fun F O ρ σ H E hw R hh => by
  refine h1 F O ρ σ H _ hw R ?_
  unfold mSeq at hh
  cases q : ms ρ with
  | ok f ρ1 =>
    rw [q] at hh
    cases f with
    | nx => exact fun O' σ' H' st R' => h2 F O' ρ1 σ' H' E hw R' (hh.later st)
    | rt x => exact hh
    | bk => exact hh
    | ct => exact hh
  | exc x ρ1 => rw [q] at hh; exact hh
  | stuck => rw [q] at hh; exact hh
theorem pms_nil : PMSs X w W [] mNext := ⟨_, pss_nil, fun F O ρ σ H E hw R hh => hh O σ H (Step.refl _ _) R⟩
theorem pms_cons (h1 : PMS X w W st ms) (h2 : PMSs X w W rest mr) : PMSs X w W (st :: rest) (mSeq ms mr) := by
  obtain ⟨t1, p1, s1⟩ := h1
  obtain ⟨t2, p2, s2⟩ := h2
  exact ⟨_, pss_cons p1 p2, sims_seq s1 s2⟩
theorem pms_one (h1 : PMS X w W st ms) : PMSs X w W [st] ms := by
  obtain ⟨t1, p1, s1⟩ := h1
  exact ⟨_, pss_one p1, s1⟩
theorem pms_if (ht : PMT X w W c mt) (ha : PMSs X w W body ms) (hb : PMSs X w W rest mr) : PMS X w W (.If c body rest pos) (mIfS mt ms mr) := by
  obtain ⟨tt, pt, stt⟩ := ht
  obtain ⟨t1, p1, s1⟩ := ha
  obtain ⟨t2, p2, s2⟩ := hb
  refine ⟨_, ps_if pt p1 p2, fun F O ρ σ H E hw R hh => ?_⟩
  refine stt.bindS hw R hh fun x ρ1 O1 H1 st1 R1 h1 => ?_
  cases x with
  | true => exact iteT (s1 F O1 ρ1 σ H1 E hw R1 h1)
  | false => exact iteF (s2 F O1 ρ1 σ H1 E hw R1 h1)
theorem VlAt.ret {F : Fr} {σ : St} {ρ' ρ0 : En} {O0 O' : Av} {H H' : Hp} {v : V} (R : Rel F O0 ρ0 σ H) : ∀ {x : Vl}, VlAt F.w σ H ρ' O' H' v x → RetAt F O' H' v x
  | (d, false), h => h
  | (d, true), ⟨a, m, e1, e2, e3, e4, e5, _⟩ => ⟨a, m, e1, R.freshE e2, e3, e4, e5⟩
theorem pms_ret (he : PM X w W e m) : PMS X w W (.Return (some e) pos) (mRet m) := by
  obtain ⟨te, pe, se⟩ := he
  refine ⟨_, ps_ret pe, fun F O ρ σ H E hw R hh => ?_⟩
  exact se.bindS hw R hh fun x v ρ1 O1 H1 st1 R1 rv h1 => h1 O1 σ H1 v (Step.refl _ _) R1 (VlAt.ret R rv)
theorem pms_retN : PMS X w W (.Return none pos) mRetN := ⟨_, ps_retN, fun F O ρ σ H E hw R hh => hh O σ H .non (Step.refl _ _) R (show Rep F.w O H .non .non by simp only [Rep])⟩
theorem pms_retO {x : Str} (i : Nat) (hN : X.N[i]? = some x := by rfl) (hv : Vis X.env.scope x := by first | exact Or.inl rfl | exact Or.inr (Or.inl rfl) | exact Or.inr (Or.inr rfl)) (hd : (x == ("__debug__" : Str)) = false := by decide)
    (hcd : (x == ("__classdict__" : Str)) = false := by decide) : PMS X w W (.Return (some (.Name x pos')) pos) (mRetO i) := by
  refine ⟨_, ps_ret (pv i hN hv hd hcd), fun F O ρ σ H E hw R hh => ?_⟩
  unfold mRetO at hh
  split at hh
  · rename_i ds e
    obtain ⟨a, e1, e2, e3, e4⟩ := R.slot i _ e
    exact ⟨_, e1, hh O σ H _ (Step.refl _ _) R.setN ⟨a, .lst ds, rfl, e3, e2, rfl, e4⟩⟩
  · rename_i ks vs e
    obtain ⟨a, e1, e2, e3, e4⟩ := R.slot i _ e
    exact ⟨_, e1, hh O σ H _ (Step.refl _ _) R.setN ⟨a, .dct ks vs, rfl, e3, e2, rfl, e4⟩⟩
  · exact hh.elim
theorem pms_expr (he : PM X w W e m) (hs : swapsWith e none pos.line X.env = pure false := by rfl) : PMS X w W (.Expr e pos) (mExpr m) := by
  obtain ⟨te, pe, se⟩ := he
  refine ⟨_, ps_expr pe hs, fun F O ρ σ H E hw R hh => ?_⟩
  exact se.bindS hw R hh fun x v ρ1 O1 H1 st1 R1 rv h1 => h1 O1 σ H1 (Step.refl _ _) R1
theorem setV_rel {F : Fr} {O : Av} {ρ ρ' : En} {σ : St} {H : Hp} {i : Nat} {d : D} {v : V} (R : Rel F O ρ σ H) (h : Rep F.w O H d v) (e : setV i d ρ = some ρ') : Rel F O ρ' (σ.set i (some v)) H := by
  unfold setV at e
  split at e
  · rename_i hi
    cases e
    exact R.setV h hi
  · cases e
theorem pms_set {i : Nat} {x : Str} (hN : X.N.Nodup) (hi : X.N[i]? = some x) (hx : Loc X.env.scope x) (he : PM X w W e m) (hs : swapsWith e (some (.Name x pos')) pos.line X.env = pure false := by rfl) (hf : X.fn x = true ∨ X.env.scope.names.lookup x = some .local := by first | exact .inl rfl | exact .inr rfl | assumption) :
    PMS X w W (.Assign [.Name x pos'] e pos) (mAsg i m) := by
  obtain ⟨te, pe, se⟩ := he
  refine ⟨_, ps_set hN hi hx pe hs hf, fun F O ρ σ H E hw R hh => ?_⟩
  refine se.bindS hw R hh fun x v ρ1 O1 H1 st1 R1 rv h1 => ?_
  obtain ⟨O2, s2, R2, r2, s3⟩ := VlAt.release st1 R1 R.doh rv
  show E.nx _ _
  cases q : setV i x.1 ρ1 with
  | none => rw [q] at h1; exact h1.elim
  | some ρ2 =>
    rw [q] at h1
    exact h1 O2 _ H1 s3 (setV_rel R2 r2 q)
theorem setO_rel {F : Fr} {O0 O : Av} {ρ0 ρ ρ' : En} {σ : St} {H0 H : Hp} {i : Nat} {x : Vl} {v : V} (R0 : Rel F O0 ρ0 σ H0) (R : Rel F O ρ σ H) (h : VlAt F.w σ H0 ρ O H v x) (e : setO i x ρ = some ρ') : Rel F O ρ' (σ.set i (some v)) H := by
  unfold setO at e
  split at e
  · rename_i hi
    cases q : toMu x with
    | none => rw [q] at e; cases e
    | some mm =>
      rw [q] at e
      cases e
      unfold VlAt at h
      rw [toMu_fr q] at h
      obtain ⟨a, m', e1, e2, e3, e4, e5, e6⟩ := h
      have z := (toMu_is q e4).2
      subst z
      subst e1
      exact R.setO e5 e3 (R0.freshE e2) e6 hi
  · cases e
theorem pms_setO {i : Nat} {x : Str} (hN : X.N.Nodup) (hi : X.N[i]? = some x) (hx : Loc X.env.scope x) (he : PM X w W e m) (hs : swapsWith e (some (.Name x pos')) pos.line X.env = pure false := by rfl) (hf : X.fn x = true ∨ X.env.scope.names.lookup x = some .local := by first | exact .inl rfl | exact .inr rfl | assumption) :
    PMS X w W (.Assign [.Name x pos'] e pos) (mAsgO i m) := by
  obtain ⟨te, pe, se⟩ := he
  refine ⟨_, ps_set hN hi hx pe hs hf, fun F O ρ σ H E hw R hh => ?_⟩
  refine se.bindS hw R hh fun x v ρ1 O1 H1 st1 R1 rv h1 => ?_
  show E.nx _ _
  cases q : setO i x ρ1 with
  | none => rw [q] at h1; exact h1.elim
  | some ρ2 =>
    rw [q] at h1
    exact h1 O1 _ H1 (Step.refl _ _) (setO_rel R R1 rv q)
theorem pms_dead {st : Stmt} : PMS X w W st mDead := ⟨_, ps_never, fun F O ρ σ H E hw R hh => hh⟩
theorem pms_brk : PMS X w W (.Break pos) mBrk := ⟨_, ps_break, fun F O ρ σ H E hw R hh => hh O σ H (Step.refl _ _) R⟩
theorem pms_cnt : PMS X w W (.Continue pos) mCnt := ⟨_, ps_continue, fun F O ρ σ H E hw R hh => hh O σ H (Step.refl _ _) R⟩
theorem pms_pass : PMS X w W (.Pass pos) mNext := ⟨_, ps_pass, fun F O ρ σ H E hw R hh => hh O σ H (Step.refl _ _) R⟩

/-! ### targets -/
/-- the slots outside is stay -/
def Out (js : List Nat) (σ σ1 : St) : Prop := ∀ vs : List Nat, (∀ j ∈ js, j ∈ vs) → wipe σ1 vs = wipe σ vs
def SimG (w : Wd) (g : TG) (m : MG) (js : List Nat) : Prop := ∀ (F : Fr) (O : Av) (ρ ρ1 : En) (σ : St) (H : Hp) (v : V) (d : D) (Q : St → Hp → Prop), F.w = w → Rel F O ρ σ H → Rep F.w O H d v → m d ρ = some ρ1 → (∀ σ1, Rel F O ρ1 σ1 H → Out js σ σ1 → Q σ1 H) → g v σ H Q
def SimGs (w : Wd) (g : TGs) (ms : List MG) (js : List Nat) : Prop := ∀ (F : Fr) (O : Av) (ρ ρ1 : En) (σ : St) (H : Hp) (vs : List V) (ds : List D) (Q : St → Hp → Prop), F.w = w → Rel F O ρ σ H → RepL F.w O H ds vs → gTs ms ds ρ = some ρ1 → (∀ σ1, Rel F O ρ1 σ1 H → Out js σ σ1 → Q σ1 H) → g vs σ H Q
def PMG (X : Cx) (w : Wd) (tg : Expr) (m : MG) (js : List Nat) : Prop := ∃ g, PG X tg g ∧ SimG w g m js
def PMGs (X : Cx) (w : Wd) (tg : List Expr) (m : List MG) (js : List Nat) : Prop := ∃ g, PGs X tg g ∧ SimGs w g m js
theorem wipe_get {σ : St} {vs : List Nat} {j : Nat} : (wipe σ vs)[j]? = if j ∈ vs then (σ[j]?).map fun _ => none else σ[j]? := by
  induction vs with
  | nil => simp [wipe]
  | cons v vs ih =>
    unfold wipe
    by_cases e : v = j
    · subst e
      rw [List.getElem?_set_self', ih]
      cases q : σ[v]? <;> simp [q] <;> split <;> simp_all
    · rw [List.getElem?_set_ne e, ih]
      have : (j ∈ v :: vs) ↔ j ∈ vs := by simp [Ne.symm e]
      simp [this]
theorem out_set {σ : St} {v : Option V} (i : Nat) : Out [i] σ (σ.set i v) := fun vs hv => by
  have hi := hv i (by simp)
  apply List.ext_getElem?
  intro j
  rw [wipe_get, wipe_get]
  by_cases e : i = j
  · subst e
    rw [if_pos hi, if_pos hi, List.getElem?_set_self']
    cases σ[i]? <;> rfl
  · rw [List.getElem?_set_ne e]
theorem pmg_name {i : Nat} {x : Str} (hN : X.N.Nodup) (hi : X.N[i]? = some x) (hx : Loc X.env.scope x) (hf : X.fn x = true ∨ X.env.scope.names.lookup x = some .local := by first | exact .inl rfl | exact .inr rfl | assumption) : PMG X w (.Name x pos) (gN i) [i] :=
  ⟨_, pg_name hN hi hx hf, fun F O ρ ρ1 σ H v d Q hw R h e k => k _ (setV_rel R h e) (out_set i)⟩
theorem pmgs_nil : PMGs X w [] [] [] := ⟨_, pgs_nil, fun F O ρ ρ1 σ H vs ds Q hw R h e k => by
  cases ds with
  | nil =>
    simp only [RepL] at h
    cases e
    exact ⟨h, k σ R fun _ _ => rfl⟩
  | cons d ds => cases e⟩
theorem pmgs_cons {g : MG} {gs : List MG} {js ks : List Nat} {es : List Expr} (h1 : PMG X w e g js) (h2 : PMGs X w es gs ks) (hs : (assignEach (e :: es) X.env).map (·.2) = assign e X.env :: (assignEach es X.env).map (·.2) := by rfl) : PMGs X w (e :: es) (g :: gs) (js ++ ks) := by
  obtain ⟨g1, p1, s1⟩ := h1
  obtain ⟨g2, p2, s2⟩ := h2
  refine ⟨_, pgs_cons p1 p2 hs, fun F O ρ ρ1 σ H vs ds Q hw R h ee k => ?_⟩
  cases ds with
  | nil => cases ee
  | cons d ds =>
    simp only [RepL] at h
    obtain ⟨v, vs', rfl, r1, r2⟩ := h
    have ee : (g d ρ).bind (fun ρ1 => gTs gs ds ρ1) = some ρ1 := ee
    cases q : g d ρ with
    | none => rw [q] at ee; cases ee
    | some ρ2 =>
      rw [q] at ee
      exact ⟨v, vs', rfl, s1 F O ρ ρ2 σ H v d _ hw R r1 q fun σ1 R1 o1 => s2 F O ρ2 ρ1 σ1 H vs' ds Q hw R1 r2 ee fun σ2 R2 o2 => k σ2 R2 fun vs hv => (o2 vs fun j hj => hv j (List.mem_append_right _ hj)).trans (o1 vs fun j hj => hv j (List.mem_append_left _ hj))⟩
theorem sq_of_rep {K : PySem.W.Frag} {O : Av} {H : Hp} {a : Addr} {vs : List V} (h : At O H a (.tup vs) ∨ WrT K a vs) : SqT K H a vs := h.imp (fun q => .inl q.2) id
theorem sl_of_rep {K : PySem.W.Frag} {O : Av} {H : Hp} {a : Addr} {vs : List V} (h : At O H a (.lst vs)) : SqL K H a vs := .inl (.inl h.2)
theorem pmg_tup {es : List Expr} {k : _} {gs : List MG} {js : List Nat} (hK : w.K = X.K) (hc : X.calm = true) (h : PMGs X w es gs js) (hn : (assignEach es X.env).length = gs.length := by rfl) (hst : (assignEach es X.env).findIdx? (·.1) = none := by rfl) : PMG X w (.Tuple es k pos) (gT gs) js := by
  obtain ⟨g, p, s⟩ := h
  refine ⟨_, pg_tup hc p hn hst, fun F O ρ ρ1 σ H v d Q hw R h ee kk => ?_⟩
  cases d with
  | tup ds =>
    simp only [Rep] at h
    obtain ⟨a, vs, rfl, h1, h2⟩ := h
    have hlen : ds.length = gs.length := by
      have key : ∀ (gs : List MG) (ds : List D) (ρ ρ1 : En), gTs gs ds ρ = some ρ1 → ds.length = gs.length := by
        intro gs
        induction gs with
        | nil => intro ds ρ ρ1 e; cases ds with
          | nil => rfl
          | cons _ _ => cases e
        | cons g gs ih => intro ds ρ ρ1 e; cases ds with
          | nil => cases e
          | cons d ds =>
            have e : (g d ρ).bind (fun ρ1 => gTs gs ds ρ1) = some ρ1 := e
            cases q : g d ρ with
            | none => rw [q] at e; cases e
            | some ρ2 => rw [q] at e; simp [ih ds ρ2 ρ1 e]
      exact key gs ds ρ ρ1 ee
    refine ⟨a, vs, rfl, ?_, by rw [h2.length]; exact hlen, s F O ρ ρ1 σ H vs ds Q hw R h2 ee kk⟩
    rw [← hK, ← hw]
    exact sq_of_rep h1
  | _ => cases ee
theorem pms_asgG {g : MG} {js : List Nat} {tg : Expr} (he : PM X w W e m) (hg : PMG X w tg g js) (hs : swapsWithSole [tg] e pos.line X.env = pure false := by rfl) (hsw : swappedStores [tg] e X.env = pure none := by rfl)
    (h1 : (assignEach [tg] X.env).map (·.2) = [assign tg X.env] := by rfl) : PMS X w W (.Assign [tg] e pos) (mAsgG g m) := by
  obtain ⟨te, pe, se⟩ := he
  obtain ⟨tgg, pg, sg⟩ := hg
  refine ⟨_, ps_asg pe pg hs hsw h1, fun F O ρ σ H E hw R hh => ?_⟩
  refine se.bindS hw R hh fun x v ρ1 O1 H1 st1 R1 rv h1 => ?_
  obtain ⟨O2, s2, R2, r2, s3⟩ := VlAt.release st1 R1 R.doh rv
  cases q : g x.1 ρ1 with
  | none => rw [q] at h1; exact h1.elim
  | some ρ2 =>
    rw [q] at h1
    exact sg F O2 ρ1 ρ2 σ H1 v x.1 _ hw R2 r2 q fun σ1 R3 _ => h1 O2 σ1 H1 s3 R3
end
end PM

namespace PM
open PySem L2

/-! ### loops -/
def mLoop (g : MG) (body : MS) : List D → MS
  | [], ρ => .ok .nx ρ
  | d :: ds, ρ => match g d ρ with
    | none => .stuck
    | some ρ1 => match body ρ1 with
      | .ok .nx ρ2 => mLoop g body ds ρ2
      | .ok .ct ρ2 => mLoop g body ds ρ2
      | .ok .bk ρ2 => .ok .nx ρ2
      | r => r
theorem loop_turn {w : Wd} {W : WX} {gg : TG} {g : MG} {js : List Nat} {tb : TS} {body : MS} (sg : SimG w gg g js) (sb : SimS w W tb body) {F : Fr} {O0 O : Av} {ρ : En} {σ : St} {H0 H : Hp} {E : Ends} {d : D} {v : V} {ds : List D} {Nx : St → Hp → Prop} (hw : F.w = w)
    (R : Rel F O ρ σ H) (rd : Rep F.w O H d v) (st0 : Step O0 H0 O H) (hh : HoldS F W O0 H0 E (mLoop g body (d :: ds) ρ))
    (hN : ∀ O' ρ' σ' H', Step O0 H0 O' H' → Rel F O' ρ' σ' H' → HoldS F W O0 H0 E (mLoop g body ds ρ') → Nx σ' H') : gg v σ H fun σ2 H2 => tb { E with nx := Nx, ct := Nx, bk := E.nx } σ2 H2 := by
  unfold mLoop at hh
  cases q : g d ρ with
  | none => rw [q] at hh; exact hh.elim
  | some ρ1 =>
    rw [q] at hh
    refine sg F O ρ ρ1 σ H v d _ hw R rd q fun σ1 R1 _ => ?_
    refine sb F O ρ1 σ1 H _ hw R1 ?_
    cases q2 : body ρ1 with
    | stuck => simp only [q2] at hh; exact hh
    | exc x ρ2 =>
      simp only [q2] at hh
      exact HoldS.later st0 (r := .exc x ρ2) hh
    | ok f ρ2 =>
      simp only [q2] at hh
      cases f with
      | nx => exact fun O' σ' H' st R' => hN O' ρ2 σ' H' (st0.trans st) R' hh
      | ct => exact fun O' σ' H' st R' => hN O' ρ2 σ' H' (st0.trans st) R' hh
      | bk => exact fun O' σ' H' st R' => hh O' σ' H' (st0.trans st) R'
      | rt x => exact fun O' σ' H' v st R' rv => hh O' σ' H' v (st0.trans st) R' rv
theorem RepL.at {w : Wd} {O : Av} {H : Hp} : ∀ {ds : List D} {vs : List V} {i : Nat} {v : V}, RepL w O H ds vs → vs[i]? = some v → ∃ d, ds.drop i = d :: ds.drop (i + 1) ∧ Rep w O H d v
  | [], vs, i, v, h, e => by
    simp only [RepL] at h
    rw [h] at e
    simp at e
  | d :: ds, vs, i, v, h, e => by
    simp only [RepL] at h
    obtain ⟨u, us, rfl, h1, h2⟩ := h
    cases i with
    | zero =>
      have z : u = v := by simpa using e
      subst z
      exact ⟨d, rfl, h1⟩
    | succ i =>
      obtain ⟨d', e', h'⟩ := RepL.at (i := i) h2 (by simpa using e)
      exact ⟨d', e', h'⟩
def mForL (it : ME) (g : MG) (body : MS) : MS := fun ρ => (it ρ).bind fun x ρ1 => match x.1 with
  | .lst ds => mLoop g body ds ρ1
  | _ => .stuck
def mForT (it : ME) (g : MG) (body : MS) : MS := fun ρ => (it ρ).bind fun x ρ1 => match x.1 with
  | .tup ds => mLoop g body ds ρ1
  | _ => .stuck
def rgL (lo : Int) : Nat → List D
  | 0 => []
  | n + 1 => .int lo :: rgL (lo + 1) n
theorem rgL_drop (lo : Int) (n i : Nat) (h : i < n) : (rgL lo n).drop i = .int (lo + i) :: (rgL lo n).drop (i + 1) := by
  induction n generalizing lo i with
  | zero => omega
  | succ n ih =>
    cases i with
    | zero => simp [rgL]
    | succ i =>
      have := ih (lo + 1) i (by omega)
      simp only [rgL, List.drop_succ_cons]
      rw [this]
      congr 2
      omega
theorem rgL_length (lo : Int) (n : Nat) : (rgL lo n).length = n := by
  induction n generalizing lo with
  | zero => rfl
  | succ n ih => simp [rgL, ih]
def rng1 : List D → Option (List D)
  | [.int j] => if -(2 ^ 62) ≤ j ∧ j < 2 ^ 62 then some (rgL 0 j.toNat) else none
  | _ => none
def rng2 : List D → Option (List D)
  | [.int i, .int j] => if -(2 ^ 62) ≤ i ∧ i < 2 ^ 62 ∧ -(2 ^ 62) ≤ j ∧ j < 2 ^ 62 then some (rgL i (j - i).toNat) else none
  | _ => none
def mForR (rg : List D → Option (List D)) (ma : MA) (g : MG) (body : MS) : MS := fun ρ => (ma ρ).bind fun xs ρ1 => match rg xs with
  | some ds => mLoop g body ds ρ1
  | none => .stuck
section
variable {w : Wd} {W : WX} {X : Cx} {pos pos' p : Pos} {it tg : Expr} {m : ME} {te : TE} {body : List Stmt} {mb : MS} {g : MG} {js : List Nat} {a b : Expr} {mr : MA}
theorem repl1 {O : Av} {H : Hp} {x : D} {vs : List V} (h : RepL w O H [x] vs) : ∃ v, vs = [v] ∧ Rep w O H x v := by
  simp only [RepL] at h
  obtain ⟨v, vs', e, h1, e2⟩ := h
  rw [e2] at e
  exact ⟨v, e, h1⟩
theorem repl2 {O : Av} {H : Hp} {x y : D} {vs : List V} (h : RepL w O H [x, y] vs) : ∃ v u, vs = [v, u] ∧ Rep w O H x v ∧ Rep w O H y u := by
  simp only [RepL] at h
  obtain ⟨v, vs', e, h1, u, us, e2, h2, e3⟩ := h
  rw [e3] at e2
  rw [e2] at e
  exact ⟨v, u, e, h1, h2⟩
theorem rep_int {O : Av} {H : Hp} {b : Int} {v : V} (h : Rep w O H (.int b) v) : v = .int b := by simpa only [Rep] using h
theorem rep_str {O : Av} {H : Hp} {b : Str} {v : V} (h : Rep w O H (.str b) v) : v = .str b := by simpa only [Rep] using h
theorem pms_forL (hK : w.K = X.K) (hp : PassesOwn (model X.prog X.w) X.A X.env X.xe) (hc : X.calm = true) (hi : PM X w W it m) (hg : PMG X w tg g js) (hb : PMSs X w W body mb) (hs : ∀ x, foldedSetIterable it X.env x = pure x := by intro _; rfl) :
    PMS X w W (.For tg it body [] pos) (mForL m g mb) := by
  obtain ⟨ti, pi, si⟩ := hi
  obtain ⟨gg, pg, sg⟩ := hg
  obtain ⟨tb, pb, sb⟩ := hb
  refine ⟨_, ps_for hp hc (pi_list pi) pg pb hs, fun F O ρ σ H E hw R hh => ?_⟩
  refine si.bindS hw R hh fun x v ρ1 O1 H1 st1 R1 rv h1 => ?_
  obtain ⟨O2, s2, R2, r2, s3⟩ := VlAt.release st1 R1 R.doh rv
  split at h1
  · rename_i ds ed
    rw [ed] at r2
    have r0 := r2
    simp only [Rep] at r2
    obtain ⟨c, vs, rfl, hq, hr⟩ := r2
    have sq : SqL X.K H1 c vs := by rw [← hK, ← hw]; exact sl_of_rep hq
    refine ⟨c, rfl, ⟨vs, sq⟩, for_list (K := X.K) (a := c) (xs := vs) (fun i σ' H' => ∃ O' ρ', Step O2 H1 O' H' ∧ Rel F O' ρ' σ' H' ∧ HoldS F W O2 H1 E (mLoop g mb (ds.drop i) ρ')) ⟨O2, ρ1, Step.refl _ _, R2, h1.later s3⟩ ?_ ?_ ?_⟩
    · rintro i σ' H' _ ⟨O', ρ', st, R', _⟩
      rw [← hK, ← hw]
      exact sl_of_rep (At.step st hq)
    · rintro i x' σ' H' ex ⟨O', ρ', st, R', hl⟩
      obtain ⟨d, ed', rd⟩ := hr.at ex
      rw [ed'] at hl
      exact loop_turn sg sb hw R' (Rep.step st _ _ rd) st hl fun O3 ρ3 σ3 H3 st3 R3 h3 => ⟨O3, ρ3, st3, R3, h3⟩
    · rintro σ' H' ⟨O', ρ', st, R', hl⟩
      rw [hr.length, List.drop_length] at hl
      exact hl O' σ' H' st R'
  · exact h1.elim
theorem pms_forT (hK : w.K = X.K) (hp : PassesOwn (model X.prog X.w) X.A X.env X.xe) (hc : X.calm = true) (hi : PM X w W it m) (hg : PMG X w tg g js) (hb : PMSs X w W body mb) (hs : ∀ x, foldedSetIterable it X.env x = pure x := by intro _; rfl) :
    PMS X w W (.For tg it body [] pos) (mForT m g mb) := by
  obtain ⟨ti, pi, si⟩ := hi
  obtain ⟨gg, pg, sg⟩ := hg
  obtain ⟨tb, pb, sb⟩ := hb
  refine ⟨_, ps_for hp hc (pi_tup pi) pg pb hs, fun F O ρ σ H E hw R hh => ?_⟩
  refine si.bindS hw R hh fun x v ρ1 O1 H1 st1 R1 rv h1 => ?_
  obtain ⟨O2, s2, R2, r2, s3⟩ := VlAt.release st1 R1 R.doh rv
  split at h1
  · rename_i ds ed
    rw [ed] at r2
    simp only [Rep] at r2
    obtain ⟨c, vs, rfl, hq, hr⟩ := r2
    have sq : SqT X.K H1 c vs := by rw [← hK, ← hw]; exact sq_of_rep hq
    refine ⟨c, rfl, ⟨vs, sq⟩, for_tup (K := X.K) (a := c) (xs := vs) (fun i σ' H' => ∃ O' ρ', Step O2 H1 O' H' ∧ Rel F O' ρ' σ' H' ∧ HoldS F W O2 H1 E (mLoop g mb (ds.drop i) ρ')) ⟨O2, ρ1, Step.refl _ _, R2, h1.later s3⟩ ?_ ?_ ?_⟩
    · rintro i σ' H' _ ⟨O', ρ', st, R', _⟩
      rw [← hK, ← hw]
      exact sq_of_rep (hq.imp (At.step st) id)
    · rintro i x' σ' H' ex ⟨O', ρ', st, R', hl⟩
      obtain ⟨d, ed', rd⟩ := hr.at ex
      rw [ed'] at hl
      exact loop_turn sg sb hw R' (Rep.step st _ _ rd) st hl fun O3 ρ3 σ3 H3 st3 R3 h3 => ⟨O3, ρ3, st3, R3, h3⟩
    · rintro σ' H' ⟨O', ρ', st, R', hl⟩
      rw [hr.length, List.drop_length] at hl
      exact hl O' σ' H' st R'
  · exact h1.elim
theorem for_ints {gg : TG} {tb : TS} {F : Fr} {E : Ends} {lo : Int} {n : Nat} {O2 : Av} {H1 : Hp} {σ : St} {ρ1 : En} (hw : F.w = w) (sg : SimG w gg g js) (sb : SimS w W tb mb) (R2 : Rel F O2 ρ1 σ H1) (h1 : HoldS F W O2 H1 E (mLoop g mb (rgL lo n) ρ1)) :
    ∃ W : Nat → Nat → St → Hp → Prop, (∃ m, W 0 m σ H1) ∧ ∀ i m σ H, W i m σ H →
      ((Itr lo n).stop i H ∧ E.nx σ H) ∨ ((Itr lo n).go i H ∧ ∃ N : St → Hp → Prop, (∀ σ' H', N σ' H' → ∃ m', m' < m ∧ W (i + 1) m' σ' H') ∧ ∀ x H', (Itr lo n).yld i H x H' → gg x σ H' fun σ2 H2 => tb { E with nx := N, ct := N, bk := E.nx } σ2 H2) := by
  refine for_range (lo := lo) (n := n) (fun i σ' H' => ∃ O' ρ', Step O2 H1 O' H' ∧ Rel F O' ρ' σ' H' ∧ HoldS F W O2 H1 E (mLoop g mb ((rgL lo n).drop i) ρ')) ⟨O2, ρ1, Step.refl _ _, R2, h1⟩ ?_ ?_
  · rintro i σ' H' hi ⟨O', ρ', st, R', hl⟩
    rw [rgL_drop lo n i hi] at hl
    exact loop_turn sg sb hw R' (by simp only [Rep]) st hl fun O3 ρ3 σ3 H3 st3 R3 h3 => ⟨O3, ρ3, st3, R3, h3⟩
  · rintro σ' H' ⟨O', ρ', st, R', hl⟩
    have z : (rgL lo n).drop n = [] := by rw [List.drop_eq_nil_iff, rgL_length]; omega
    rw [z] at hl
    exact hl O' σ' H' st R'
theorem pms_forR1 (hp : PassesOwn (model X.prog X.w) X.A X.env X.xe) (hc : X.calm = true) (hg' : Gl X "range") (hm : X.mg "range" = none) (ha : PMA X w W [a] mr) (hg : PMG X w tg g js) (hb : PMSs X w W body mb) (hst : starEach [a] X.env = [(false, eval a X.env)] := by rfl)
    (hs : ∀ x, foldedSetIterable (.Call (.Name "range" p) [a] [] pos') X.env x = pure x := by intro _; rfl) : PMS X w W (.For tg (.Call (.Name "range" p) [a] [] pos') body [] pos) (mForR rng1 mr g mb) := by
  obtain ⟨ti, pi, si⟩ := ha
  obtain ⟨gg, pg, sg⟩ := hg
  obtain ⟨tb, pb, sb⟩ := hb
  refine ⟨_, ps_for hp hc (pi_range1 hg' hm pi hst) pg pb hs, fun F O ρ σ H E hw R hh => ?_⟩
  refine si.bindS hw R hh fun xs vs ρ1 O1 H1 st1 R1 rs h1 => ?_
  split at h1
  · rename_i ds ed
    unfold rng1 at ed
    split at ed
    · rename_i j
      split at ed
      · rename_i hj
        cases ed
        obtain ⟨v, rfl, r1⟩ := repl1 rs
        rw [rep_int r1]
        exact ⟨j, rfl, hj.1, hj.2, for_ints hw sg sb R1 h1⟩
      · cases ed
    · cases ed
  · exact h1.elim
theorem pms_forR2 (hp : PassesOwn (model X.prog X.w) X.A X.env X.xe) (hc : X.calm = true) (hg' : Gl X "range") (hm : X.mg "range" = none) (ha : PMA X w W [a, b] mr) (hg : PMG X w tg g js) (hb : PMSs X w W body mb) (hst : starEach [a, b] X.env = [(false, eval a X.env), (false, eval b X.env)] := by rfl) (hst2 : starEach [b] X.env = [(false, eval b X.env)] := by rfl)
    (hs : ∀ x, foldedSetIterable (.Call (.Name "range" p) [a, b] [] pos') X.env x = pure x := by intro _; rfl) : PMS X w W (.For tg (.Call (.Name "range" p) [a, b] [] pos') body [] pos) (mForR rng2 mr g mb) := by
  obtain ⟨ti, pi, si⟩ := ha
  obtain ⟨gg, pg, sg⟩ := hg
  obtain ⟨tb, pb, sb⟩ := hb
  refine ⟨_, ps_for hp hc (pi_range2 hg' hm pi hst hst2) pg pb hs, fun F O ρ σ H E hw R hh => ?_⟩
  refine si.bindS hw R hh fun xs vs ρ1 O1 H1 st1 R1 rs h1 => ?_
  split at h1
  · rename_i ds ed
    unfold rng2 at ed
    split at ed
    · rename_i i j
      split at ed
      · rename_i hj
        cases ed
        obtain ⟨v, u, rfl, r1, r2⟩ := repl2 rs
        rw [rep_int r1, rep_int r2]
        exact ⟨i, j, rfl, hj, for_ints hw sg sb R1 h1⟩
      · cases ed
    · cases ed
  · exact h1.elim

/-! ### while -/
def mWhile (t : MT) (body : MS) : Nat → MS
  | 0, _ => .stuck
  | n + 1, ρ => (t ρ).bind fun x ρ1 => if x = true then (match body ρ1 with
      | .ok .nx ρ2 => mWhile t body n ρ2
      | .ok .ct ρ2 => mWhile t body n ρ2
      | .ok .bk ρ2 => .ok .nx ρ2
      | r => r) else .ok .nx ρ1
theorem pms_while (n : Nat) {c : Expr} {mt : MT} (hp : PassesOwn (model X.prog X.w) X.A X.env X.xe) (ht : PMT X w W c mt) (hb : PMSs X w W body mb) : PMS X w W (.While c body [] pos) (mWhile mt mb n) := by
  obtain ⟨tt, pt, stt⟩ := ht
  obtain ⟨tb, pb, sb⟩ := hb
  refine ⟨_, ps_while hp pt pb, fun F O ρ σ H E hw R hh => ?_⟩
  refine ⟨fun k σ' H' => ∃ O' ρ', Rel F O' ρ' σ' H' ∧ HoldS F W O' H' E (mWhile mt mb k ρ'), ⟨n, O, ρ, R, hh⟩, ?_⟩
  rintro k σ' H' ⟨O', ρ', R', hl⟩
  cases k with
  | zero => exact hl.elim
  | succ k =>
    refine stt.bindS hw R' hl fun x ρ1 O1 H1 st1 R1 h1 => ?_
    cases x with
    | false => exact iteF (h1 O1 σ' H1 (Step.refl _ _) R1)
    | true =>
      refine iteT ⟨fun σ2 H2 => ∃ O2 ρ2, Rel F O2 ρ2 σ2 H2 ∧ HoldS F W O2 H2 E (mWhile mt mb k ρ2), fun σ2 H2 q => ⟨k, Nat.lt_succ_self k, q⟩, ?_⟩
      refine sb F O1 ρ1 σ' H1 _ hw R1 ?_
      have h1 : HoldS F W O1 H1 E (match mb ρ1 with
        | .ok .nx ρ2 => mWhile mt mb k ρ2
        | .ok .ct ρ2 => mWhile mt mb k ρ2
        | .ok .bk ρ2 => .ok .nx ρ2
        | r => r) := h1
      cases q2 : mb ρ1 with
      | stuck => simp only [q2] at h1; exact h1
      | exc x ρ2 => simp only [q2] at h1; exact h1
      | ok f ρ2 =>
        simp only [q2] at h1
        cases f with
        | nx => exact fun O2 σ2 H2 st R2 => ⟨O2, ρ2, R2, h1.later st⟩
        | ct => exact fun O2 σ2 H2 st R2 => ⟨O2, ρ2, R2, h1.later st⟩
        | bk => exact h1
        | rt x => exact h1
end
end PM

namespace PM
open PySem L2

section
variable {F : Fr} {O O' : Av} {ρ : En} {σ : St} {H H' : Hp}
theorem Rel.mutG (R : Rel F O ρ σ H) {i : Nat} {s : Sl} {m m' : Mu} {a : Addr} (e : ρ[i]? = some s) (h : s.get = some m) (ea : σ[i]? = some (some (.ref a))) (hk : ∀ b o, b ≠ a → H b = some o → H' b = some o) (st : Step O H O' H') (hO : ∀ b, O b → O' b) (hdm : ∀ b, O' b → H' b ≠ none)
    (h' : MuAt F.w O' H' a m') : Rel F O' (ρ.set i (s.put m')) σ H' := by
  have hmu : s.mu = true := by cases s <;> first | rfl | cases h
  have same : ∀ {c : Addr} {m0 : Mu}, MuAt F.w O H c m0 → c ≠ a → H' c = H c := fun {c m0} q n => by
    cases z : H c with
    | none => exact absurd z q.some
    | some o => exact hk c o n z
  refine ⟨by simp [R.len], fun b q => hO b (R.b0 b q), R.bh, R.ib, hdm, fun b q => st.dom b (R.doh b q), fun b o q n => ?_, fun j t e1 => ?_, fun j k t u e1 e2 m1 m2 q => ?_⟩
  · refine hk b o (fun z => ?_) (R.keep b o q n)
    subst z
    have q2 := R.slot i s e
    cases s with
    | non => cases h
    | val d => cases h
    | own m0 =>
      obtain ⟨c, c1, c2, c3, c4⟩ := q2
      rw [ea] at c1
      cases c1
      rw [q] at c3
      cases c3
    | io m0 =>
      obtain ⟨c, c1, c2, c4⟩ := q2
      rw [ea] at c1
      cases c1
      exact n i c2
  · rcases get_set e1 with ⟨a1, a2⟩ | ⟨a1, a2⟩
    · subst a1
      subst a2
      have q2 := R.slot i s e
      cases s with
      | non => cases h
      | val d => cases h
      | own m0 =>
        obtain ⟨c, c1, c2, c3, c4⟩ := q2
        rw [ea] at c1
        cases c1
        exact ⟨a, ea, hO _ c2, c3, h'⟩
      | io m0 =>
        obtain ⟨c, c1, c2, c4⟩ := q2
        rw [ea] at c1
        cases c1
        exact ⟨a, ea, c2, h'⟩
    · have q2 := R.slot j t a2
      cases t with
      | non => trivial
      | val d =>
        obtain ⟨v, c1, c2⟩ := q2
        exact ⟨v, c1, Rep.step st d v c2⟩
      | own m0 =>
        obtain ⟨c, c1, c2, c3, c4⟩ := q2
        refine ⟨c, c1, hO _ c2, c3, c4.step st (same c4 fun z => ?_)⟩
        subst z
        exact a1 (R.dist i j s _ e a2 hmu rfl (ea.trans c1.symm))
      | io m0 =>
        obtain ⟨c, c1, c2, c4⟩ := q2
        refine ⟨c, c1, c2, c4.step st (same c4 fun z => ?_)⟩
        subst z
        exact a1 (R.dist i j s _ e a2 hmu rfl (ea.trans c1.symm))
  · have key : ∀ (j : Nat) (t : Sl), (ρ.set i (s.put m'))[j]? = some t → t.mu = true → ∃ t', ρ[j]? = some t' ∧ t'.mu = true := fun j t e1 m1 => by
      rcases get_set e1 with ⟨a1, a2⟩ | ⟨a1, a2⟩
      · subst a1
        exact ⟨s, e, hmu⟩
      · exact ⟨t, a2, m1⟩
    obtain ⟨t', f1, f2⟩ := key j t e1 m1
    obtain ⟨u', g1, g2⟩ := key k u e2 m2
    exact R.dist j k t' u' f1 g1 f2 g2 q
theorem Apart.put (R : Apart ρ σ a) {i : Nat} {s : Sl} {m' : Mu} (e : ρ[i]? = some s) (h : s.mu = true) : Apart (ρ.set i (s.put m')) σ a := fun j t e1 m1 => by
  rcases get_set e1 with ⟨a1, a2⟩ | ⟨a1, a2⟩
  · subst a1
    exact R i s e h
  · exact R j t a2 m1
end

/-! ### what a def is worth -/
inductive Fs where
  | ret (x : Vl) (m : Option Mu) | exc (x : Xc) (m : Option Mu) | stuck
/-- a def: the list or dict that it is handed to be changed, the first argument (or none); the others -/
abbrev Fn := Option Mu → List D → Fs
def ArgAt (w : Wd) (O : Av) (H : Hp) (om : Option Mu) (ds : List D) (vs : List V) : Prop := match om with
  | none => RepL w O H ds vs
  | some m => ∃ a vs', vs = .ref a :: vs' ∧ O a ∧ MuAt w O H a m ∧ RepL w O H ds vs'
def IoB (om : Option Mu) (vs : List V) : Av := fun a => om.isSome = true ∧ vs.head? = some (.ref a)
def IoAt (w : Wd) (O : Av) (H : Hp) (om : Option Mu) (vs : List V) : Prop := match om with
  | none => True
  | some m => ∃ a, vs.head? = some (.ref a) ∧ MuAt w O H a m
structure Stay (om : Option Mu) (vs : List V) (H H' : Hp) : Prop where
  kept : ∀ a o, ¬ IoB om vs a → H a = some o → H' a = some o
  dom : ∀ a, H a ≠ none → H' a ≠ none
def RetF (w : Wd) (O : Av) (H : Hp) (om' : Option Mu) (vs : List V) (H' : Hp) (v : V) (x : Vl) : Prop := match x.2 with
  | false => Rep w O H' x.1 v ∧ IoAt w O H' om' vs
  | true => ∃ a m, v = .ref a ∧ H a = none ∧ m.is x.1 ∧ MuAt w (ins O a) H' a m ∧ IoAt w (ins O a) H' om' vs
def HoldF (w : Wd) (O : Av) (H : Hp) (om : Option Mu) (vs : List V) (Q : VK) (E : XK) : Fs → Prop
  | .ret x om' => om'.isSome = om.isSome ∧ ∀ H' v, Stay om vs H H' → RetF w O H om' vs H' v x → Q v H'
  | .exc x om' => om'.isSome = om.isSome ∧ ∀ H' cls d, Stay om vs H H' → IoAt w O H' om' vs → XcAt w O H' cls d x → E cls d H'
  | .stuck => False
def spOf (w : Wd) (k : Nat) (f : Fn) : Sp := fun vs H Q E => ∃ (O : Av) (om : Option Mu) (ds : List D), Dm O H ∧ vs.length = k ∧ ArgAt w O H om ds vs ∧ HoldF w O H om vs Q E (f om ds)

/-! ### calls -/
def mCallV (f : Fn) (ma : MA) : ME := fun ρ => (ma ρ).bind fun xs ρ1 => match f none xs with
  | .ret x none => .ok x ρ1
  | _ => .stuck
def muOf (i : Nat) (ρ : En) : Option (Sl × Mu) := (ρ[i]?).bind fun s => s.get.map fun m => (s, m)
def mCallD (f : Fn) (i : Nat) (ma : MA) : ME := fun ρ => match muOf i ρ with
  | none => .stuck
  | some _ => (ma ρ).bind fun xs ρ1 => match muOf i ρ1 with
    | none => .stuck
    | some (s, m) => match f (some m) xs with
      | .ret x (some m') => .ok x (ρ1.set i (s.put m'))
      | _ => .stuck
theorem muOf_some {i : Nat} {ρ : En} {s : Sl} {m : Mu} (h : muOf i ρ = some (s, m)) : ρ[i]? = some s ∧ s.get = some m := by
  unfold muOf at h
  cases e : ρ[i]? with
  | none => rw [e] at h; cases h
  | some t =>
    rw [e] at h
    cases q : t.get with
    | none => rw [show (some t).bind (fun s => s.get.map fun m => (s, m)) = t.get.map fun m => (t, m) from rfl, q] at h; cases h
    | some m' =>
      rw [show (some t).bind (fun s => s.get.map fun m => (s, m)) = t.get.map fun m => (t, m) from rfl, q] at h
      cases h
      exact ⟨rfl, q⟩
theorem mu_of_get {s : Sl} {m : Mu} (h : s.get = some m) : s.mu = true := by cases s <;> first | rfl | cases h
theorem mono_step {O O' : Av} {H : Hp} (h : ∀ a, O' a → O a) : Step O H O' H := ⟨fun a q => .inl (h a q), fun _ _ _ e => e, fun _ e => e⟩
section
variable {w : Wd} {W : WX} {X : Cx} {pos p : Pos} {x : Str} {e : Expr} {es : List Expr} {ta : TA} {ma : MA} {f : Fn} {k : Nat}
theorem sim_callV {E : XK} (ha : SimA w W ta ma) (hn : ∀ (ρ ρ1 : En) (xs : List D), ma ρ = .ok xs ρ1 → xs.length = k) : Sim w W (tCall (spOf w k f) [] E ta) (mCallV f ma) := fun F O ρ σ H Q hw R hh => by
  subst hw
  have hn' : ∀ xs ρ1, ma ρ = .ok xs ρ1 → xs.length = k := fun xs ρ1 e => hn ρ ρ1 xs e
  have key : Hold F W O σ H (RV F σ H) Q ((ma ρ).bind fun xs ρ1 => if xs.length = k then (match f none xs with
  | .ret x none => .ok x ρ1
  | _ => .stuck) else .stuck) := by
    unfold mCallV at hh
    cases q : ma ρ with
    | ok xs ρ1 =>
      rw [q] at hh
      show Hold F W O σ H (RV F σ H) Q (if xs.length = k then _ else _)
      rw [if_pos (hn' xs ρ1 q)]
      exact hh
    | exc x ρ1 => rw [q] at hh; exact hh
    | stuck => rw [q] at hh; exact hh
  refine ha.bind rfl R key fun xs vs ρ1 O1 H1 st1 R1 rs h1 => ?_
  split at h1
  · rename_i hk
    show spOf _ _ _ (vs ++ []) H1 Q E
    rw [List.append_nil]
    refine ⟨O1, none, xs, R1.dom, by rw [rs.length]; exact hk, rs, ?_⟩
    split at h1
    · rename_i z hz
      rw [hz]
      refine ⟨rfl, fun H' v sy rf => ?_⟩
      have g : Grow H1 H' := fun a o e => sy.kept a o (fun q => by cases q.1) e
      obtain ⟨d, b⟩ := z
      cases b with
      | false => exact h1 O1 H' v (st1.trans g.step) (R1.grow g) rf.1
      | true =>
        obtain ⟨a, m, e1, e2, e3, e4, _⟩ := rf
        exact h1 (ins O1 a) H' v (st1.trans (ins_step g e2)) (R1.guard g e2 e4.some) ⟨a, m, e1, st1.none_back e2, .inr rfl, e3, e4, R1.apart e2⟩
    · exact h1.elim
  · exact h1.elim
theorem sim_callD {E : XK} {i : Nat} (ha : SimA w W ta ma) (hn : ∀ (ρ ρ1 : En) (xs : List D), ma ρ = .ok xs ρ1 → xs.length + 1 = k) : Sim w W (tCall (spOf w k f) [] E (tCons (tVar i) ta)) (mCallD f i ma) := fun F O ρ σ H Q hw R hh => by
  subst hw
  unfold mCallD at hh
  cases q0 : muOf i ρ with
  | none => rw [q0] at hh; exact hh.elim
  | some sm =>
    rw [q0] at hh
    obtain ⟨e0, g0⟩ := muOf_some (s := sm.1) (m := sm.2) q0
    obtain ⟨a, ea, oa, _⟩ := R.muAt e0 g0
    refine ⟨.ref a, ea, ?_⟩
    have key : Hold F W O σ H (RV F σ H) Q ((ma ρ).bind fun xs ρ1 => if xs.length + 1 = k then (match muOf i ρ1 with
      | none => .stuck
      | some (s, m) => match f (some m) xs with
        | .ret x (some m') => .ok x (ρ1.set i (s.put m'))
        | _ => .stuck) else .stuck) := by
      cases q : ma ρ with
      | ok xs ρ1 =>
        rw [q] at hh
        show Hold F W O σ H (RV F σ H) Q (if xs.length + 1 = k then _ else _)
        rw [if_pos (hn ρ ρ1 xs q)]
        exact hh
      | exc x ρ1 => rw [q] at hh; exact hh
      | stuck => rw [q] at hh; exact hh
    refine ha.bind rfl R key fun xs vs ρ1 O1 H1 st1 R1 rs h1 => ?_
    split at h1
    · rename_i hk
      split at h1
      · exact h1.elim
      · rename_i s m q1
        obtain ⟨e1, g1⟩ := muOf_some q1
        obtain ⟨a', ea', oa', ma'⟩ := R1.muAt e1 g1
        rw [ea] at ea'
        cases ea'
        show spOf _ _ _ ((.ref a :: vs) ++ []) H1 Q E
        rw [List.append_nil]
        refine ⟨O1, some m, xs, R1.dom, by simp [rs.length, hk], ⟨a, vs, rfl, oa', ma', rs⟩, ?_⟩
        split at h1
        · rename_i z m' hz
          rw [hz]
          refine ⟨rfl, fun H' v sy rf => ?_⟩
          have hk : ∀ b o, b ≠ a → H1 b = some o → H' b = some o := fun b o n e => sy.kept b o (fun q => n (by have := q.2; simp at this; exact this.symm)) e
          obtain ⟨d, b⟩ := z
          cases b with
          | false =>
            obtain ⟨r1, a2, ha2, r2⟩ := rf
            cases (show some (V.ref a) = some (.ref a2) from ha2)
            have st2 : Step O1 H1 O1 H' := ⟨fun _ q => .inl q, fun b o n e => hk b o (fun z => n (by rw [z]; exact oa')) e, sy.dom⟩
            exact h1 O1 H' v (st1.trans st2) (R1.mutG e1 g1 ea hk st2 (fun _ q => q) (fun b q => sy.dom b (R1.dom b q)) r2) r1
          | true =>
            obtain ⟨c, m2, e2, e3, e4, e5, a2, ha2, r2⟩ := rf
            cases (show some (V.ref a) = some (.ref a2) from ha2)
            have st2 : Step O1 H1 (ins O1 c) H' := ⟨fun b q => q.elim .inl fun e => .inr (by rw [e]; exact e3), fun b o n e => hk b o (fun z => n (by rw [z]; exact oa')) e, sy.dom⟩
            refine h1 (ins O1 c) H' v (st1.trans st2) (R1.mutG e1 g1 ea hk st2 (fun _ q => .inl q) (fun b q => q.elim (fun q => sy.dom b (R1.dom b q)) fun z => by rw [z]; exact e5.some) r2) ?_
            exact ⟨c, m2, e2, st1.none_back e3, .inr rfl, e4, e5, (R1.apart e3).put e1 (mu_of_get g1)⟩
        · exact h1.elim
    · exact h1.elim
end
end PM

/-! The layer's promise of a def, for callers under whom no repr is running: repr of a list, a tuple, a dict can be told exactly then. -/
namespace PM
open PySem PySem.Spec PyProof.Rows L2

structure FnG (P : Program) (wo : World) (K : PySem.W.Frag) (mg : Str → Option Value) (base : Heap) (Z : CXT) (k : Nat) (f : Addr) (fd : FuncData) (ps : List Str) (sp : Sp) : Prop where
  len : ∀ vs H Q E, sp vs H Q E → vs.length = ps.length
  run : ∀ (A : Around) (out : List Env) (s : Shared) (H : Hp) (args : Args) (us : List Value) (vs : List V) (Q : VK) (E : XK), A.guards = some [] → Room k A → Env0 P wo K mg base A out s H → BindsTo s fd args (ps.zip us) → Vals vs us → sp vs H Q E →
    codeAny (model P wo) A (.call (.ref f) args) (CR Z out P wo H s Q E) s
section
variable {P : Program} {wo : World} {K : PySem.W.Frag} {mg : Str → Option Value} {base : Heap} {Z : CXT} {k j : Nat} {f : Addr} {fd : FuncData} {ps N : List Str} {sp : Sp}
theorem _root_.L2.FnOk.toG (F : FnOk P wo K mg base Z k f fd ps sp) : FnG P wo K mg base Z k f fd ps sp := ⟨F.len, fun A out s H args us vs Q E _ => F.run A out s H args us vs Q E⟩
theorem FnG.mono (F : FnG P wo K mg base Z j f fd ps sp) (h : j ≤ k) : FnG P wo K mg base Z k f fd ps sp := ⟨F.len, fun A out s H args us vs Q E hg hr => F.run A out s H args us vs Q E hg (hr.mono h)⟩
theorem fn_ofG {nm qual : Str} {pr : Arguments} {body : List Stmt} {sco : Scope} {dV kV doc pm cdv ct oc : Value} {an od : Option Addr} {osl : Array (Option Value)}
    (lk : K.lookup f = some ⟨oc, od, .func (PySem.W.fnOf nm qual pr body sco dV kV doc pm an cdv ct), osl⟩) (hcd : PySem.W.codeIn K cdv qual = true) (S : FnScope N ps sco) (len : ∀ vs H Q E, sp vs H Q E → vs.length = ps.length)
    (hbody : ∀ (A : Around) (out : List Env) (s : Shared) (H : Hp) (vs : List V) (Q : VK) (E : XK), A.guards = some [] → Room k (A.deeper (envOfC qual sco s.heap.objs.size f cdv)) → sp vs H Q E →
      ∃ t, PSs (cxOf Z P wo K mg base N qual sco f cdv A out s H E) body t ∧ t { nx := fun _ H' => Q .non H', rt := Q } (L2.start N vs) H) :
    FnG P wo K mg base Z (k + 1) f (PySem.W.fnOf nm qual pr body sco dV kV doc pm an cdv ct) ps sp := by
  refine ⟨len, fun A out s H args us vs Q E hgu hr en hbi rr hsp => ?_⟩
  have hlen := len _ _ _ _ hsp
  have old : ∀ b o, base.get? b = some o → s.heap.get? b = some o := fun b o e => (en.bs b o e).1
  have inK : K.In s.heap := en.mod.kin.keeps old
  have nol : s.heap.NoLimit := en.mod.nolimit.keeps old
  refine codeAny_call_function hr.depth (inK _ _ lk) rfl S.co S.gen rfl (PySem.W.codeRec_of inK hcd) (hbi _ _ _ _ ?_)
  refine wpAny_newFunctionEnv_cells S.kind (fun ⟨n, v⟩ hy => ?_) fun env he s1 x => ?_
  · rcases S.par n (List.of_mem_zip hy).1 with q | q
    · exact Or.inl q
    · exact Or.inr ⟨q, PySem.W.cellsFrom_some _ _ _ (Or.inl q)⟩
  · cases he
    refine ⟨nol.keeps x.toInCall.keep, codeAny_func ?_⟩
    obtain ⟨t, pt, rt⟩ := hbody A out s H vs Q E hgu (hr.deeper _) hsp
    have J0 := inv_start (CX := Z) (cd := cdv) (E := E) S hr.hd en hlen rr x
    refine wpAny_mono (pt.run [] s1 (L2.start N vs) H _ J0 rt) (fun fl s' hs => ?_) fun e s' he => he
    have close : ∀ {τ : L2.St} {H' : Hp} {v : V} {u : Value}, Inv (cxOf Z P wo K mg base N qual sco f cdv A out s H E) [] τ H' s' → RelV v u → Q v H' → CE out P wo H s Q u s' := fun {τ H' v u} J rv q => ⟨v, H', J.os, J.bare, J.base, J.hok, rv, q⟩
    cases fl with
    | ret u =>
      obtain ⟨v, τ, H', J, rv, q⟩ := hs
      exact close J rv q
    | next =>
      obtain ⟨τ, H', J, q⟩ := hs
      exact close (v := V.non) (u := Value.none) J rfl q
    | brk =>
      obtain ⟨_, _, _, q⟩ := hs
      exact q.elim
    | cont =>
      obtain ⟨_, _, _, q⟩ := hs
      exact q.elim
end
section
variable {X : Cx} {Z : CXT} {k : Nat} {f : Addr} {fd : FuncData} {ps : List Str} {sp : Sp} {E : XK} {x : Str} {p pos : Pos} {e : Expr} {es : List Expr} {t : TA}
theorem run_fnG {pins : List (Addr × Obj)} {σ : L2.St} {H : Hp} {s : Shared} {Q : VK} {us : List Value} {vs : List V} (F : FnG X.prog X.w X.K X.mg X.base Z k f fd ps sp) (hgu : X.A.guards = some []) (hr : Room k X.A) (hb : Binds X.K fd ps []) (hx : Passes Z X E)
    (I : Inv X pins σ H s) (r : Vals vs us) (h : sp vs H Q E) : wpAny (model X.prog X.w) X.A (call (.ref f) us) (EP X pins σ Q) X.xe s := by
  have hl : us.length = ps.length := r.length.symm.trans (F.len _ _ _ _ h)
  have bd : BindsTo s fd ⟨us, []⟩ (ps.zip us) := by
    have := hb s us I.kIn (by rw [List.append_nil]; exact hl)
    rw [List.append_nil] at this
    exact this
  refine wpAny_call (codeAny_mono (F.run X.A X.stack s H ⟨us, []⟩ us vs Q E hgu hr I.env0 bd r h) fun res s' hq => ?_)
  rcases res with e | fl
  · exact hx pins σ H s e s' I hq
  · cases fl with
    | ret u => exact I.after hq
    | next => exact hq.elim
    | brk => exact hq.elim
    | cont => exact hq.elim
/-- f(e, ..) -/
theorem pe_callG (F : FnG X.prog X.w X.K X.mg X.base Z k f fd ps sp) (hgu : X.A.guards = some []) (hr : Room k X.A) (hg : Gl X x) (hm : X.mg x = some (.ref f)) (hk : PySem.W.keepIn X.K (.ref f) = true) (hb : Binds X.K fd ps []) (hx : Passes Z X E) (ha : PA X (e :: es) t)
    (hdb : (x == ("__debug__" : Str)) = false := by decide) (he : starEach (e :: es) X.env = (false, eval e X.env) :: starEach es X.env := by rfl) (hpl : (backTo pos (starEach es X.env)).any (·.1) = false := by rfl) :
    PE X (.Call (.Name x p) (e :: es) [] pos) (tCall sp [] E t) := by
  refine ⟨fun pins s σ H Q I hw => wpAny_Call_Name_kw (ld_glob I hg hm ?_ hdb)⟩
  refine PySem.W.callWith_K (h₀ := X.base) I.ok.mod.kin hk (thn (ha.run pos pins s σ H _ I hw) fun us s1 hh => ?_) he hpl
  obtain ⟨vs, H1, I1, r, q⟩ := hh
  have q : sp (vs ++ []) H1 Q E := q
  rw [List.append_nil] at q
  exact ⟨I1.kIn, run_fnG F hgu hr hb hx I1 r q⟩
theorem pe_call0G (F : FnG X.prog X.w X.K X.mg X.base Z k f fd ps sp) (hgu : X.A.guards = some []) (hr : Room k X.A) (hg : Gl X x) (hm : X.mg x = some (.ref f)) (hk : PySem.W.keepIn X.K (.ref f) = true) (hb : Binds X.K fd ps []) (hx : Passes Z X E)
    (hdb : (x == ("__debug__" : Str)) = false := by decide) : PE X (.Call (.Name x p) [] [] pos) (tCall sp [] E tNil) := by
  refine ⟨fun pins s σ H Q I hw => wpAny_Call_Name_kw (ld_glob I hg hm ?_ hdb)⟩
  exact PySem.W.callWith_K0 I.kIn hk (run_fnG (us := []) (vs := []) F hgu hr hb hx I .nil hw)
end
end PM

namespace PM
open PySem PySem.Spec PyProof.Rows L2

/-! ### a def's worth by its body -/
def ioOf (om : Option Mu) (ρ : En) : Option (Option Mu) := match om with
  | none => some none
  | some _ => match (ρ[(0 : Nat)]? : Option Sl) with
    | some (.io m) => some (some m)
    | _ => none
def pre0 : Option Mu → En
  | none => []
  | some m => [.io m]
def en0 (n : Nat) (om : Option Mu) (ds : List D) : En := (pre0 om ++ ds.map Sl.val) ++ List.replicate (n - ((pre0 om).length + ds.length)) .non
def fnSem (n k : Nat) (body : MS) : Fn := fun om ds => if (pre0 om).length + ds.length = k then (match body (en0 n om ds) with
  | .ok (.rt x) ρ => (match ioOf om ρ with
    | some m => .ret x m
    | none => .stuck)
  | .ok .nx ρ => (match ioOf om ρ with
    | some m => .ret (.non, false) m
    | none => .stuck)
  | .exc x ρ => (match ioOf om ρ with
    | some m => .exc x m
    | none => .stuck)
  | _ => .stuck) else .stuck
/-- no error leaves it -/
def noX (f : Fn) : Fn := fun om ds => match f om ds with
  | .ret x m => .ret x m
  | _ => .stuck
theorem RepL.get {w : Wd} {O : Av} {H : Hp} : ∀ {ds : List D} {vs : List V} {i : Nat} {d : D}, RepL w O H ds vs → ds[i]? = some d → ∃ v, vs[i]? = some v ∧ Rep w O H d v
  | [], vs, i, d, h, e => by simp at e
  | d :: ds, vs, i, d', h, e => by
    simp only [RepL] at h
    obtain ⟨u, us, rfl, h1, h2⟩ := h
    cases i with
    | zero =>
      have z : d = d' := by simpa using e
      subst z
      exact ⟨u, rfl, h1⟩
    | succ i =>
      obtain ⟨v, e', h'⟩ := RepL.get (i := i) h2 (by simpa using e)
      exact ⟨v, by simpa using e', h'⟩
theorem start_get {N : List Str} {vs : List V} {i : Nat} {v : V} (e : vs[i]? = some v) : (start N vs)[i]? = some (some v) := by
  unfold L2.start
  rw [List.getElem?_append_left (by rw [List.length_map]; exact lt_of_get e), List.getElem?_map, e]
  rfl
theorem start_len {N : List Str} {vs : List V} (h : vs.length ≤ N.length) : (start N vs).length = N.length := by
  unfold L2.start
  simp
  omega
theorem rep_get {α : Type} {n i : Nat} {x y : α} (h : (List.replicate n x)[i]? = some y) : y = x := by
  rw [List.getElem?_replicate] at h
  split at h
  · cases h; rfl
  · cases h
section
variable {w : Wd} {N : List Str} {vs : List V} {H : Hp} {O : Av} {om : Option Mu} {ds : List D}
theorem pre_len (h : ArgAt w O H om ds vs) : (pre0 om).length + ds.length = vs.length := by
  cases om with
  | none =>
    have z : RepL w O H ds vs := h
    simp [pre0, z.length]
  | some m =>
    obtain ⟨a, vs', rfl, _, _, z⟩ := h
    simp [pre0, z.length]
    omega
theorem pre_get (h : ArgAt w O H om ds vs) {i : Nat} {s : Sl} (e : (pre0 om ++ ds.map Sl.val)[i]? = some s) : ∃ v, vs[i]? = some v ∧ ((∃ d, s = .val d ∧ Rep w O H d v) ∨ ∃ m a, s = .io m ∧ om = some m ∧ i = 0 ∧ v = .ref a ∧ O a ∧ MuAt w O H a m) := by
  cases om with
  | none =>
    have z : RepL w O H ds vs := h
    have e : (ds.map Sl.val)[i]? = some s := by simpa [pre0] using e
    rw [List.getElem?_map] at e
    cases q : ds[i]? with
    | none => rw [q] at e; cases e
    | some d =>
      rw [q] at e
      cases e
      obtain ⟨v, e1, e2⟩ := z.get q
      exact ⟨v, e1, .inl ⟨d, rfl, e2⟩⟩
  | some m =>
    obtain ⟨a, vs', rfl, ha, hm, z⟩ := h
    cases i with
    | zero =>
      have e : Sl.io m = s := by simpa [pre0] using e
      subst e
      exact ⟨.ref a, rfl, .inr ⟨m, a, rfl, rfl, rfl, rfl, ha, hm⟩⟩
    | succ i =>
      have e : (ds.map Sl.val)[i]? = some s := by simpa [pre0] using e
      rw [List.getElem?_map] at e
      cases q : ds[i]? with
      | none => rw [q] at e; cases e
      | some d =>
        rw [q] at e
        cases e
        obtain ⟨v, e1, e2⟩ := z.get q
        exact ⟨v, by simpa using e1, .inl ⟨d, rfl, e2⟩⟩
theorem en0_get (h : ArgAt w O H om ds vs) {n i : Nat} {s : Sl} (e : (en0 n om ds)[i]? = some s) : s = .non ∨ ∃ v, vs[i]? = some v ∧ ((∃ d, s = .val d ∧ Rep w O H d v) ∨ ∃ m a, s = .io m ∧ om = some m ∧ i = 0 ∧ v = .ref a ∧ O a ∧ MuAt w O H a m) := by
  unfold en0 at e
  by_cases hl : i < (pre0 om ++ ds.map Sl.val).length
  · rw [List.getElem?_append_left hl] at e
    exact .inr (pre_get h e)
  · rw [List.getElem?_append_right (by omega)] at e
    exact .inl (rep_get e)
theorem rel_start (dm : Dm O H) (hn : vs.length ≤ N.length) (h : ArgAt w O H om ds vs) : Rel ⟨w, O, fun i a => i = 0 ∧ IoB om vs a, H⟩ O (en0 N.length om ds) (start N vs) H := by
  refine ⟨?_, fun _ q => q, fun a q => dm a q, fun i a q => ?_, dm, fun _ q => q, fun a o q _ => q, fun i s e => ?_, fun i j s t e1 e2 m1 m2 q => ?_⟩
  · rw [start_len hn]
    unfold en0
    have := pre_len h
    simp
    omega
  · cases om with
    | none => exact absurd q.2.1 (by simp)
    | some m =>
      obtain ⟨b, vs', rfl, hb, _⟩ := h
      have z := q.2.2
      simp at z
      show O a
      rw [← z]
      exact hb
  · rcases en0_get h e with rfl | ⟨v, e1, ⟨d, rfl, hd⟩ | ⟨m, a, rfl, rfl, rfl, rfl, ha, hm⟩⟩
    · trivial
    · exact ⟨v, start_get e1, hd⟩
    · refine ⟨a, start_get e1, ⟨rfl, rfl, ?_⟩, hm⟩
      cases vs with
      | nil => simp at e1
      | cons b r => simpa using e1
  · have k : ∀ {i : Nat} {s : Sl}, (en0 N.length om ds)[i]? = some s → s.mu = true → i = 0 := fun {i s} e m => by
      rcases en0_get h e with rfl | ⟨v, e1, ⟨d, rfl, hd⟩ | ⟨m, a, rfl, rfl, rfl, rfl, ha, hm⟩⟩
      · cases m
      · cases m
      · rfl
    rw [k e1 m1, k e2 m2]
/-- the contents of what it was handed, at the end -/
theorem io_end {O' : Av} {ρ' : En} {σ' : L2.St} {H' : Hp} {om' : Option Mu} (R : Rel ⟨w, O, fun i a => i = 0 ∧ IoB om vs a, H⟩ O' ρ' σ' H') (e : ioOf om ρ' = some om') : om'.isSome = om.isSome ∧ ∀ O1 : Av, (∀ a, O1 a → O' a) → IoAt w O1 H' om' vs := by
  cases om with
  | none =>
    cases e
    exact ⟨rfl, fun _ _ => trivial⟩
  | some m =>
    unfold ioOf at e
    simp only at e
    split at e
    · rename_i m' q
      cases e
      obtain ⟨a, e1, e2, e3⟩ := R.slot 0 _ q
      exact ⟨rfl, fun O1 h => ⟨a, e2.2.2, e3.step (mono_step h) rfl⟩⟩
    · cases e
theorem stay_end {O' : Av} {ρ' : En} {σ' : L2.St} {H' : Hp} (R : Rel ⟨w, O, fun i a => i = 0 ∧ IoB om vs a, H⟩ O' ρ' σ' H') : Stay om vs H H' := ⟨fun a o n e => R.keep a o e fun i q => n q.2, fun a e => R.doh a e⟩
theorem body_ok {W : WX} {ts : TS} {m : MS} {k : Nat} {Q : VK} {E : XK} (hs : SimS w W ts m) (hW : ∀ cls d σ H, E cls d H → W cls d σ H) (hk : k ≤ N.length) (h : spOf w k (fnSem N.length k m) vs H Q E) : ts { nx := fun _ H' => Q .non H', rt := Q } (start N vs) H := by
  obtain ⟨O, om, ds, dm, hl, ha, hh⟩ := h
  refine hs _ O (en0 N.length om ds) (start N vs) H _ rfl (rel_start dm (by omega) ha) ?_
  unfold fnSem at hh
  rw [if_pos ((pre_len ha).trans hl)] at hh
  cases q : m (en0 N.length om ds) with
  | stuck => rw [q] at hh; exact hh
  | exc x ρ' =>
    rw [q] at hh
    simp only at hh
    intro O' σ' H' cls d st R xa
    cases qi : ioOf om ρ' with
    | none => rw [qi] at hh; exact hh.elim
    | some om' =>
      rw [qi] at hh
      obtain ⟨i1, i2⟩ := io_end R qi
      refine hW _ _ _ _ (hh.2 H' cls d (stay_end R) (i2 O R.b0) ?_)
      cases x with
      | own c fs =>
        cases fs with
        | nil => exact xa
        | cons f fs =>
          obtain ⟨x1, a, vs1, x2, x3, x4, x5⟩ := xa
          exact ⟨x1, a, vs1, x2, fun q => x3 (R.b0 a q), x4, RepL.step (mono_step R.b0) _ _ x5⟩
      | ty n => exact xa
  | ok f ρ' =>
    rw [q] at hh
    cases f with
    | bk => exact hh.elim
    | ct => exact hh.elim
    | nx =>
      simp only at hh
      intro O' σ' H' st R
      cases qi : ioOf om ρ' with
      | none => rw [qi] at hh; exact hh.elim
      | some om' =>
        rw [qi] at hh
        obtain ⟨i1, i2⟩ := io_end R qi
        exact hh.2 H' .non (stay_end R) ⟨by simp only [Rep], i2 O R.b0⟩
    | rt x =>
      simp only at hh
      intro O' σ' H' v st R rv
      cases qi : ioOf om ρ' with
      | none => rw [qi] at hh; exact hh.elim
      | some om' =>
        rw [qi] at hh
        obtain ⟨i1, i2⟩ := io_end R qi
        refine hh.2 H' v (stay_end R) ?_
        obtain ⟨d, b⟩ := x
        cases b with
        | false => exact ⟨Rep.step (mono_step R.b0) _ _ rv, i2 O R.b0⟩
        | true =>
          obtain ⟨a, mm, e1, e2, e3, e4, e5⟩ := rv
          have sub : ∀ b, ins O a b → O' b := fun b q => q.elim (R.b0 b) fun z => by rw [z]; exact e3
          exact ⟨a, mm, e1, e2, e4, e5.step (mono_step sub) rfl, i2 _ sub⟩
end

/-! ### defs -/
def W0 : WX := fun _ _ _ _ => False
/-- a def's promise; g: under callers below whom no repr runs -/
def FnP (g : Bool) (P : Program) (wo : World) (K : PySem.W.Frag) (mg : Str → Option Value) (base : Heap) (j : Nat) (f : Addr) (fd : FuncData) (ps : List Str) (sp : Sp) : Prop := match g with
  | true => FnG P wo K mg base CX0 j f fd ps sp
  | false => FnOk P wo K mg base CX0 j f fd ps sp
/-- where a def of the module stands, and what it is worth -/
def DefOk (g : Bool) (P : Program) (wo : World) (K : PySem.W.Frag) (mg : Str → Option Value) (base : Heap) (w : Wd) (x : Str) (n j : Nat) (f : Fn) : Prop :=
  ∃ a fd ps, ps.length = n ∧ FnP g P wo K mg base j a fd ps (spOf w n f) ∧ mg x = some (.ref a) ∧ PySem.W.keepIn K (.ref a) = true ∧ Binds K fd ps []
section
variable {P : Program} {wo : World} {K : PySem.W.Frag} {mg : Str → Option Value} {base : Heap} {w : Wd}
theorem noX_hold {f : Fn} {vs : List V} {H : Hp} {Q : VK} {E E' : XK} {k : Nat} (h : spOf w k (noX f) vs H Q E) : spOf w k f vs H Q E' := by
  obtain ⟨O, om, ds, dm, hl, ha, hh⟩ := h
  refine ⟨O, om, ds, dm, hl, ha, ?_⟩
  unfold noX at hh
  cases q : f om ds with
  | ret x m => rw [q] at hh; exact hh
  | exc x m => rw [q] at hh; exact hh.elim
  | stuck => rw [q] at hh; exact hh.elim
/-- a def that no error leaves -/
theorem fn_ok0 (g : Bool) {x qual : Str} {st : Stmt} {f : Addr} {fd : FuncData} {N ps : List Str} {k : Nat} {m : MS} (F : Fun K x qual st f fd) (S : FnScope N ps (defScope st)) (hl : ps.length ≤ N.length)
    (hb : ∀ (cdv : Value) (A : Around) (outer : List Env) (s : Shared) (H : Hp) (E : XK), (g = true → A.guards = some []) → Room k (A.deeper (envOfC qual (defScope st) s.heap.objs.size f cdv)) →
      PMSs (cxOf CX0 P wo K mg base N qual (defScope st) f cdv A outer s H E).nox w W0 (defBody st) m) : FnP g P wo K mg base (k + 1) f fd ps (spOf w ps.length (noX (fnSem N.length ps.length m))) := by
  have len : ∀ vs H Q E, spOf w ps.length (noX (fnSem N.length ps.length m)) vs H Q E → vs.length = ps.length := fun vs H Q E h => by
    obtain ⟨O, om, ds, _, hl, _⟩ := h
    exact hl
  cases g with
  | true =>
    obtain ⟨oc, od, kV, doc, pm, an, cdv, ct, osl, rfl, lk, hcd⟩ := F.ex
    refine fn_ofG lk hcd S len fun A outer s H vs Q E hgu hr h => ?_
    obtain ⟨t, p, sm⟩ := hb cdv A outer s H E (fun _ => hgu) hr
    exact ⟨t, p.nox, body_ok (E := fun _ _ _ => False) sm (fun _ _ _ _ z => z) hl (noX_hold h)⟩
  | false =>
    refine F.ok S len fun cdv A outer s H vs Q E hr h => ?_
    obtain ⟨t, p, sm⟩ := hb cdv A outer s H E (fun z => by cases z) hr
    exact ⟨t, p, body_ok (E := fun _ _ _ => False) sm (fun _ _ _ _ z => z) hl (noX_hold h)⟩
theorem def_zero (g : Bool) {x : Str} {n : Nat} {f : Fn} {a : Addr} {fd : FuncData} {ps : List Str} (hf : ∀ om ds, f om ds = .stuck) (hl : ps.length = n) (hm : mg x = some (.ref a)) (hk : PySem.W.keepIn K (.ref a) = true) (hb : Binds K fd ps []) : DefOk g P wo K mg base w x n 0 f := by
  have no : ∀ vs H Q E, spOf w n f vs H Q E → False := fun vs H Q E h => by
    obtain ⟨O, om, ds, _, _, _, hh⟩ := h
    rw [hf] at hh
    exact hh
  refine ⟨a, fd, ps, hl, ?_, hm, hk, hb⟩
  cases g with
  | true => exact ⟨fun vs H Q E h => (no _ _ _ _ h).elim, fun A outer s H args us vs Q E hgu hr he hbb hv h => (no _ _ _ _ h).elim⟩
  | false => exact ⟨fun vs H Q E h => (no _ _ _ _ h).elim, fun A outer s H args us vs Q E hr he hbb hv h => (no _ _ _ _ h).elim⟩
theorem DefOk.mono {g : Bool} {x : Str} {n i j : Nat} {f : Fn} (h : DefOk g P wo K mg base w x n i f) (hij : i ≤ j) : DefOk g P wo K mg base w x n j f := by
  obtain ⟨a, fd, ps, h1, h2, h3⟩ := h
  refine ⟨a, fd, ps, h1, ?_, h3⟩
  cases g with
  | true => exact FnG.mono h2 hij
  | false => exact FnOk.mono h2 hij
end
/-! ### calls of defs -/
def Len (ma : MA) (n : Nat) : Prop := ∀ (ρ ρ1 : En) (xs : List D), ma ρ = .ok xs ρ1 → xs.length = n
theorem len_nil : Len mNil 0 := fun ρ ρ1 xs e => by
  cases e
  rfl
theorem len_cons {a : ME} {r : MA} {n : Nat} (h : Len r n) : Len (mCons a r) (n + 1) := fun ρ ρ1 xs e => by
  unfold mCons at e
  cases q : a ρ with
  | stuck => rw [q] at e; cases e
  | exc x ρ2 => rw [q] at e; cases e
  | ok x ρ2 =>
    rw [q] at e
    have e : (r ρ2).bind (fun xs ρ3 => Rs.ok (x.1 :: xs) ρ3) = .ok xs ρ1 := e
    cases q2 : r ρ2 with
    | stuck => rw [q2] at e; cases e
    | exc x ρ2 => rw [q2] at e; cases e
    | ok ys ρ3 =>
      rw [q2] at e
      cases e
      simp [h ρ2 _ ys q2]
section
variable {w : Wd} {W : WX} {X : Cx} {pos p p' : Pos} {x y : Str} {e : Expr} {es : List Expr} {ma : MA} {f : Fn} {n j : Nat}
theorem pm_call {g : Bool} (F : DefOk g X.prog X.w X.K X.mg X.base w x n j f) (hgu : g = true → X.A.guards = some []) (hr : Room j X.A) (hg : Gl X x) (ha : PMA X w W (e :: es) ma) (hn : Len ma n) (hd : (x == ("__debug__" : Str)) = false := by decide) (he : starEach (e :: es) X.env = (false, eval e X.env) :: starEach es X.env := by rfl) (hpl : (backTo pos (starEach es X.env)).any (·.1) = false := by rfl) :
    PM X w W (.Call (.Name x p) (e :: es) [] pos) (mCallV f ma) := by
  obtain ⟨a, fd, ps, hl, F, hm, hk, hb⟩ := F
  obtain ⟨ta, pa, sa⟩ := ha
  cases g with
  | true => exact ⟨_, pe_callG F (hgu rfl) hr hg hm hk hb pass0 pa hd he hpl, sim_callV sa hn⟩
  | false => exact ⟨_, pe_call F hr hg hm hk hb .nil pass0 pa hd he hpl, sim_callV sa hn⟩
theorem pm_call0 {g : Bool} (F : DefOk g X.prog X.w X.K X.mg X.base w x 0 j f) (hgu : g = true → X.A.guards = some []) (hr : Room j X.A) (hg : Gl X x) (hd : (x == ("__debug__" : Str)) = false := by decide) : PM X w W (.Call (.Name x p) [] [] pos) (mCallV f mNil) := by
  obtain ⟨a, fd, ps, hl, F, hm, hk, hb⟩ := F
  have sm := sim_callV (w := w) (W := W) (f := f) (ta := tNil) (E := E0) sima_nil len_nil
  cases g with
  | true => exact ⟨_, pe_call0G F (hgu rfl) hr hg hm hk hb pass0 hd, sm⟩
  | false => exact ⟨_, pe_call0 F hr hg hm hk hb .nil pass0 hd, sm⟩
/-- f(y, ..), y a list or dict that f may change -/
theorem pm_callD (i : Nat) {g : Bool} (F : DefOk g X.prog X.w X.K X.mg X.base w x (n + 1) j f) (hgu : g = true → X.A.guards = some []) (hr : Room j X.A) (hg : Gl X x) (ha : PMA X w W es ma) (hn : Len ma n) (hN : X.N[i]? = some y := by rfl) (hv : Vis X.env.scope y := by first | exact Or.inl rfl | exact Or.inr (Or.inl rfl) | exact Or.inr (Or.inr rfl)) (hd : (x == ("__debug__" : Str)) = false := by decide)
    (hdy : (y == ("__debug__" : Str)) = false := by decide) (hcd : (y == ("__classdict__" : Str)) = false := by decide) (he : starEach (.Name y p' :: es) X.env = (false, eval (.Name y p') X.env) :: starEach es X.env := by rfl) (hpl : (backTo pos (starEach es X.env)).any (·.1) = false := by rfl) :
    PM X w W (.Call (.Name x p) (.Name y p' :: es) [] pos) (mCallD f i ma) := by
  obtain ⟨a, fd, ps, hl, F, hm, hk, hb⟩ := F
  obtain ⟨ta, pa, sa⟩ := ha
  have sm := sim_callD (w := w) (W := W) (f := f) (E := E0) (i := i) (k := n + 1) sa fun ρ ρ1 xs q => by rw [hn ρ ρ1 xs q]
  cases g with
  | true => exact ⟨_, pe_callG F (hgu rfl) hr hg hm hk hb pass0 (pa_cons (pv i hN hv hdy hcd) pa he) hd he hpl, sm⟩
  | false => exact ⟨_, pe_call F hr hg hm hk hb .nil pass0 (pa_cons (pv i hN hv hdy hcd) pa he) hd he hpl, sm⟩
end
end PM

namespace PM
open PySem L2

def dI (i : Int) : Vl := (.int i, false)
def dB (b : Bool) : Vl := (.bl b, false)
def dS (x : Str) : Vl := (.str x, false)
section
variable {w : Wd} {O : Av} {H : Hp}
theorem Go.int {i : Int} {Q : VK} (g : Go w O H (dI i) Q) : Q (.int i) H := Go.val (d := .int i) g (by simp only [Rep])
theorem Go.bl {i : Bool} {Q : VK} (g : Go w O H (dB i) Q) : Q (.bl i) H := Go.val (d := .bl i) g (by simp only [Rep])
theorem Go.str {i : Str} {Q : VK} (g : Go w O H (dS i) Q) : Q (.str i) H := Go.val (d := .str i) g (by simp only [Rep])
theorem RepL.append : ∀ {xs ys : List D} {vs us : List V}, RepL w O H xs vs → RepL w O H ys us → RepL w O H (xs ++ ys) (vs ++ us)
  | [], ys, vs, us, h, k => by
    simp only [RepL] at h
    subst h
    exact k
  | x :: xs, ys, vs, us, h, k => by
    simp only [RepL] at h
    obtain ⟨v, vs', rfl, h1, h2⟩ := h
    show RepL w O H (x :: (xs ++ ys)) (v :: (vs' ++ us))
    simp only [RepL]
    exact ⟨v, _, rfl, h1, RepL.append h2 k⟩
theorem RepL.nil_iff {xs : List D} {vs : List V} (h : RepL w O H xs vs) : vs = [] ↔ xs = [] := by
  have := h.length
  constructor
  · intro e; subst e; exact List.length_eq_zero_iff.mp this.symm
  · intro e; subst e; exact List.length_eq_zero_iff.mp this
end

/-! ### numbers -/
def int2 (g : Int → Int → Vl) : D → D → Option Vl
  | .int i, .int j => some (g i j)
  | _, _ => none
def int2c (C : Int → Int → Bool) (g : Int → Int → Vl) : D → D → Option Vl
  | .int i, .int j => if C i j = true then some (g i j) else none
  | _, _ => none
theorem int2_some {g : Int → Int → Vl} {x y : D} {z : Vl} (h : int2 g x y = some z) : ∃ i j, x = .int i ∧ y = .int j ∧ z = g i j := by
  unfold int2 at h
  split at h
  · cases h; exact ⟨_, _, rfl, rfl, rfl⟩
  · cases h
theorem int2c_some {C : Int → Int → Bool} {g : Int → Int → Vl} {x y : D} {z : Vl} (h : int2c C g x y = some z) : ∃ i j, x = .int i ∧ y = .int j ∧ C i j = true ∧ z = g i j := by
  unfold int2c at h
  split at h
  · split at h
    · cases h; exact ⟨_, _, rfl, rfl, by assumption, rfl⟩
    · cases h
  · cases h
section
variable {w : Wd}
theorem o2_intI (g : Int → Int → Int) : Op2 w (rI0 fun i j => .int (g i j)) (int2 fun i j => dI (g i j)) := fun O H x y z vx vy Q dm e hx hy k => by
  obtain ⟨i, j, rfl, rfl, rfl⟩ := int2_some e
  exact ⟨i, j, rep_int hx, rep_int hy, k.int⟩
theorem o2_intB (g : Int → Int → Bool) : Op2 w (rI0 fun i j => .bl (g i j)) (int2 fun i j => dB (g i j)) := fun O H x y z vx vy Q dm e hx hy k => by
  obtain ⟨i, j, rfl, rfl, rfl⟩ := int2_some e
  exact ⟨i, j, rep_int hx, rep_int hy, k.bl⟩
theorem o2_intC {C : Int → Int → Prop} {c : Int → Int → Bool} (g : Int → Int → Int) (hc : ∀ i j, c i j = true → C i j) : Op2 w (rI C fun i j => .int (g i j)) (int2c c fun i j => dI (g i j)) := fun O H x y z vx vy Q dm e hx hy k => by
  obtain ⟨i, j, rfl, rfl, h, rfl⟩ := int2c_some e
  exact ⟨i, j, rep_int hx, rep_int hy, hc i j h, k.int⟩
end
def subD : D → D → Option Vl := int2 fun i j => dI (i - j)
def mulC (i j : Int) : Bool := decide (i.natAbs.log2 + j.natAbs.log2 < 1000000)
def mulD : D → D → Option Vl := int2c mulC fun i j => dI (i * j)
def modC (_ j : Int) : Bool := decide (0 < j)
def modD : D → D → Option Vl := int2c modC fun i j => dI (i % j)
def divC (_ j : Int) : Bool := decide (0 < j ∧ j.natAbs.log2 < 9000)
def divD : D → D → Option Vl := int2c divC fun i j => dI (i / j)
def powC (i j : Int) : Bool := decide (0 ≤ j ∧ j ≤ 1000000 ∧ i.natAbs < 2 ^ 64)
def powD : D → D → Option Vl := int2c powC fun i j => dI (i ^ j.toNat)
def ltI : D → D → Option Vl := int2 fun i j => dB (decide (i < j))
def leI : D → D → Option Vl := int2 fun i j => dB (decide (i ≤ j))
def gtI : D → D → Option Vl := int2 fun i j => dB (decide (j < i))
def geI : D → D → Option Vl := int2 fun i j => dB (decide (j ≤ i))
section
variable {w : Wd} {W : WX} {X : Cx} {pos : Pos} {a b : Expr} {ma mb : ME}
theorem pm_sub (ha : PM X w W a ma) (hb : PM X w W b mb) : PM X w W (.BinOp a .Sub b pos) (mOp2 subD ma mb) := pm_bin op_sub (o2_intI fun i j => i - j) ha hb
theorem pm_mul (ha : PM X w W a ma) (hb : PM X w W b mb) : PM X w W (.BinOp a .Mult b pos) (mOp2 mulD ma mb) := pm_bin op_mulW (o2_intC (c := mulC) (fun i j => i * j) fun i j h => by unfold mulC at h; unfold CMulW; exact of_decide_eq_true h) ha hb
theorem pm_mod (ha : PM X w W a ma) (hb : PM X w W b mb) : PM X w W (.BinOp a .Mod b pos) (mOp2 modD ma mb) := pm_bin op_mod (o2_intC (c := modC) (fun i j => i % j) fun i j h => by unfold modC at h; exact of_decide_eq_true h) ha hb
theorem pm_div (ha : PM X w W a ma) (hb : PM X w W b mb) : PM X w W (.BinOp a .FloorDiv b pos) (mOp2 divD ma mb) := pm_bin op_fdivW (o2_intC (c := divC) (fun i j => i / j) fun i j h => by unfold divC at h; unfold CDivW; exact of_decide_eq_true h) ha hb
theorem pm_pow (ha : PM X w W a ma) (hb : PM X w W b mb) : PM X w W (.BinOp a .Pow b pos) (mOp2 powD ma mb) := pm_bin op_pow (o2_intC (c := powC) (fun i j => i ^ j.toNat) fun i j h => by unfold powC at h; unfold CPow; exact of_decide_eq_true h) ha hb
theorem pm_lt (ha : PM X w W a ma) (hb : PM X w W b mb) : PM X w W (.Compare a [.Lt] [b] pos) (mOp2 ltI ma mb) := pm_cmp op_lt (o2_intB fun i j => decide (i < j)) ha hb (nomark _)
theorem pm_le (ha : PM X w W a ma) (hb : PM X w W b mb) : PM X w W (.Compare a [.LtE] [b] pos) (mOp2 leI ma mb) := pm_cmp op_le (o2_intB fun i j => decide (i ≤ j)) ha hb (nomark _)
theorem pm_gt (ha : PM X w W a ma) (hb : PM X w W b mb) : PM X w W (.Compare a [.Gt] [b] pos) (mOp2 gtI ma mb) := pm_cmp op_gt (o2_intB fun i j => decide (j < i)) ha hb (nomark _)
theorem pm_ge (ha : PM X w W a ma) (hb : PM X w W b mb) : PM X w W (.Compare a [.GtE] [b] pos) (mOp2 geI ma mb) := pm_cmp op_ge (o2_intB fun i j => decide (j ≤ i)) ha hb (nomark _)
theorem pmt_lt (ha : PM X w W a ma) (hb : PM X w W b mb) : PMT X w W (.Compare a [.Lt] [b] pos) (mTest (mOp2 ltI ma mb)) := pmt_cmp op_lt (o2_intB fun i j => decide (i < j)) ha hb (nomark _)
theorem pmt_le (ha : PM X w W a ma) (hb : PM X w W b mb) : PMT X w W (.Compare a [.LtE] [b] pos) (mTest (mOp2 leI ma mb)) := pmt_cmp op_le (o2_intB fun i j => decide (i ≤ j)) ha hb (nomark _)
theorem pmt_gt (ha : PM X w W a ma) (hb : PM X w W b mb) : PMT X w W (.Compare a [.Gt] [b] pos) (mTest (mOp2 gtI ma mb)) := pmt_cmp op_gt (o2_intB fun i j => decide (j < i)) ha hb (nomark _)
theorem pmt_ge (ha : PM X w W a ma) (hb : PM X w W b mb) : PMT X w W (.Compare a [.GtE] [b] pos) (mTest (mOp2 geI ma mb)) := pmt_cmp op_ge (o2_intB fun i j => decide (j ≤ i)) ha hb (nomark _)
end

/-! ### + -/
def addD : D → D → Option Vl
  | .int i, .int j => some (dI (i + j))
  | .str a, .str b => if a.length + b.length ≤ sizeLine then some (dS (a ++ b)) else none
  | .tup a, .tup b => if a.length + b.length ≤ sizeLine then some (.tup (a ++ b), false) else none
  | .lst a, .lst b => if a.length + b.length ≤ sizeLine then some (.lst (a ++ b), true) else none
  | _, _ => none
def rAddA (K : PySem.W.Frag) : R2 := fun x y H Q => (rI0 (fun i j => .int (i + j))) x y H Q ∨ (∃ i j, x = .str i ∧ y = .str j ∧ i.length + j.length ≤ sizeLine ∧ Q (.str (i ++ j)) H) ∨ rCatA K x y H Q ∨ rCat x y H Q
section
variable {w : Wd} {W : WX} {X : Cx} {pos : Pos} {a b : Expr} {ma mb : ME}
theorem op_addA : OpR X (binaryOp .Add) (rAddA X.K) := op_add.or (op_add_str.or (op_catA.or op_cat))
theorem o2_add : Op2 w (rAddA w.K) addD := fun O H x y z vx vy Q dm e hx hy k => by
  unfold addD at e
  split at e
  · cases e
    exact .inl ⟨_, _, rep_int hx, rep_int hy, k.int⟩
  · split at e
    · cases e
      exact .inr (.inl ⟨_, _, rep_str hx, rep_str hy, by assumption, k.str⟩)
    · cases e
  · split at e
    · rename_i hz
      cases e
      simp only [Rep] at hx hy
      obtain ⟨p, vs, rfl, h1, h2⟩ := hx
      obtain ⟨q, us, rfl, h3, h4⟩ := hy
      refine .inr (.inr (.inl ⟨p, q, vs, us, rfl, rfl, sq_of_rep h1, sq_of_rep h3, by rw [h2.length, h4.length]; exact hz, fun z => ?_, fun z1 z => ?_, fun z1 z2 r hr => ?_⟩))
      · have z' := h2.nil_iff.mp z
        subst z'
        exact k.val (by simp only [Rep, List.nil_append]; exact ⟨q, us, rfl, h3, h4⟩)
      · have z' := h4.nil_iff.mp z
        subst z'
        exact k.val (by simp only [Rep, List.append_nil]; exact ⟨p, vs, rfl, h1, h2⟩)
      · exact k.newT dm (h2.append h4) hr
    · cases e
  · split at e
    · rename_i hz
      cases e
      simp only [Rep] at hx hy
      obtain ⟨p, vs, rfl, h1, h2⟩ := hx
      obtain ⟨q, us, rfl, h3, h4⟩ := hy
      exact .inr (.inr (.inr ⟨p, q, vs, us, rfl, rfl, h1.2, h3.2, by rw [h2.length, h4.length]; exact hz, fun r hr => k.newL (h2.append h4) hr⟩))
    · cases e
  · cases e
theorem pm_add (hK : w.K = X.K) (ha : PM X w W a ma) (hb : PM X w W b mb) : PM X w W (.BinOp a .Add b pos) (mOp2 addD ma mb) := pm_bin op_addA (hK ▸ o2_add) ha hb
end

/-! ### ==, != of data; repr -/
mutual
def toPy : D → Option PyData
  | .non => some .none
  | .bl b => some (.bool b)
  | .int i => some (.int i)
  | .str x => some (.str x)
  | .tup ds => (toPyL ds).map .tuple
  | .lst ds => (toPyL ds).map .list
  | .scr ds => (toPyL ds).map .list
  | .dct _ _ => none
  | .obj _ _ => none
  | .cls _ => none
  | .exn _ _ _ => none
def toPyL : List D → Option (List PyData)
  | [] => some []
  | d :: ds => (toPy d).bind fun p => (toPyL ds).map fun ps => p :: ps
end
section
variable {w : Wd} {O : Av} {H : Hp}
mutual
theorem dp_of : ∀ (d : D) (v : V) (p : PyData), Rep w O H d v → toPy d = some p → Dp w.K H v p
  | .non, v, p, h, e => by
    simp only [Rep] at h
    simp only [toPy] at e
    cases e; subst h; exact .non
  | .bl b, v, p, h, e => by
    simp only [Rep] at h
    simp only [toPy] at e
    cases e; subst h; exact .bl b
  | .int b, v, p, h, e => by
    simp only [Rep] at h
    simp only [toPy] at e
    cases e; subst h; exact .int b
  | .str b, v, p, h, e => by
    simp only [Rep] at h
    simp only [toPy] at e
    cases e; subst h; exact .str b
  | .tup ds, v, p, h, e => by
    simp only [Rep] at h
    simp only [toPy] at e
    obtain ⟨a, vs, rfl, h1, h2⟩ := h
    cases q : toPyL ds with
    | none => rw [q] at e; cases e
    | some ps =>
      rw [q] at e
      cases e
      exact .tup (sq_of_rep h1) (dpl_of ds vs ps h2 q)
  | .lst ds, v, p, h, e => by
    simp only [Rep] at h
    simp only [toPy] at e
    obtain ⟨a, vs, rfl, h1, h2⟩ := h
    cases q : toPyL ds with
    | none => rw [q] at e; cases e
    | some ps =>
      rw [q] at e
      cases e
      exact .lst (sl_of_rep h1) (dpl_of ds vs ps h2 q)
  | .scr ds, v, p, h, e => by
    simp only [Rep] at h
    simp only [toPy] at e
    obtain ⟨a, vs, rfl, h1, h2⟩ := h
    cases q : toPyL ds with
    | none => rw [q] at e; cases e
    | some ps =>
      rw [q] at e
      cases e
      exact .lst (h1.imp (fun ⟨o, z⟩ => .inr ⟨o, z.2⟩) id) (dpl_of ds vs ps h2 q)
  | .exn _ _ _, v, p, h, e => by simp only [toPy] at e; cases e
  | .dct _ _, v, p, h, e => by simp only [toPy] at e; cases e
  | .obj _ _, v, p, h, e => by simp only [toPy] at e; cases e
  | .cls _, v, p, h, e => by simp only [toPy] at e; cases e
theorem dpl_of : ∀ (ds : List D) (vs : List V) (ps : List PyData), RepL w O H ds vs → toPyL ds = some ps → DpAll w.K H vs ps
  | [], vs, ps, h, e => by
    simp only [RepL] at h
    simp only [toPyL] at e
    cases e; subst h; exact .nil
  | d :: ds, vs, ps, h, e => by
    simp only [RepL] at h
    simp only [toPyL] at e
    obtain ⟨v, vs', rfl, h1, h2⟩ := h
    cases q : toPy d with
    | none => rw [q] at e; cases e
    | some p =>
      rw [q] at e
      cases q2 : toPyL ds with
      | none => rw [q2] at e; cases e
      | some ps' =>
        rw [q2] at e
        cases e
        exact .cons (dp_of d v p h1 q) (dpl_of ds vs' ps' h2 q2)
end
end
def pyOk (x : D) : Option PyData := (toPy x).bind fun p => if SeqAt.shaped p = true then some p else none
theorem pyOk_some {x : D} {p : PyData} (h : pyOk x = some p) : toPy x = some p ∧ SeqAt.shaped p = true := by
  unfold pyOk at h
  cases q : toPy x with
  | none => rw [q] at h; cases h
  | some p' =>
    rw [q] at h
    have h : (if SeqAt.shaped p' = true then some p' else none) = some p := h
    split at h
    · cases h; exact ⟨rfl, by assumption⟩
    · cases h
def eqD (x y : D) : Option Vl := (pyOk x).bind fun p => (pyOk y).map fun q => dB (PyData.eqv p q)
def neD (x y : D) : Option Vl := (pyOk x).bind fun p => (pyOk y).map fun q => dB (!PyData.eqv p q)
section
variable {w : Wd} {W : WX} {X : Cx} {pos : Pos} {a b : Expr} {ma mb : ME}
theorem o2_eqD : Op2 w (rEqD w.K) eqD := fun O H x y z vx vy Q dm e hx hy k => by
  unfold eqD at e
  cases q1 : pyOk x with
  | none => rw [q1] at e; cases e
  | some p =>
    rw [q1] at e
    cases q2 : pyOk y with
    | none => rw [q2] at e; cases e
    | some q =>
      rw [q2] at e
      cases e
      obtain ⟨a1, a2⟩ := pyOk_some q1
      obtain ⟨b1, b2⟩ := pyOk_some q2
      exact ⟨p, q, dp_of x vx p hx a1, dp_of y vy q hy b1, a2, b2, k.bl⟩
theorem o2_neD : Op2 w (rNeD w.K) neD := fun O H x y z vx vy Q dm e hx hy k => by
  unfold neD at e
  cases q1 : pyOk x with
  | none => rw [q1] at e; cases e
  | some p =>
    rw [q1] at e
    cases q2 : pyOk y with
    | none => rw [q2] at e; cases e
    | some q =>
      rw [q2] at e
      cases e
      obtain ⟨a1, a2⟩ := pyOk_some q1
      obtain ⟨b1, b2⟩ := pyOk_some q2
      exact ⟨p, q, dp_of x vx p hx a1, dp_of y vy q hy b1, a2, b2, k.bl⟩
theorem pm_eq {k : Nat} (hK : w.K = X.K) (hr : Room k X.A) (ha : PM X w W a ma) (hb : PM X w W b mb) : PM X w W (.Compare a [.Eq] [b] pos) (mOp2 eqD ma mb) := pm_cmp (op_eqD hr.units) (hK ▸ o2_eqD) ha hb (nomark _)
theorem pm_ne {k : Nat} (hK : w.K = X.K) (hr : Room k X.A) (ha : PM X w W a ma) (hb : PM X w W b mb) : PM X w W (.Compare a [.NotEq] [b] pos) (mOp2 neD ma mb) := pm_cmp (op_neD hr.units) (hK ▸ o2_neD) ha hb (nomark _)
theorem pmt_eq {k : Nat} (hK : w.K = X.K) (hr : Room k X.A) (ha : PM X w W a ma) (hb : PM X w W b mb) : PMT X w W (.Compare a [.Eq] [b] pos) (mTest (mOp2 eqD ma mb)) := pmt_cmp (op_eqD hr.units) (hK ▸ o2_eqD) ha hb (nomark _)
theorem pmt_ne {k : Nat} (hK : w.K = X.K) (hr : Room k X.A) (ha : PM X w W a ma) (hb : PM X w W b mb) : PMT X w W (.Compare a [.NotEq] [b] pos) (mTest (mOp2 neD ma mb)) := pmt_cmp (op_neD hr.units) (hK ▸ o2_neD) ha hb (nomark _)
end
def one1 (f : D → Option Vl) : List D → Option Vl
  | [x] => f x
  | _ => none
def reprD (x : D) : Option Vl := (toPy x).bind fun p => if p.canLay0 = true ∧ p.showable = true ∧ p.depth < 64 ∧ p.shown.length ≤ sizeLine then some (dS p.shown) else none
def rRepr (K : PySem.W.Frag) : List V → Hp → VK → Prop := fun xs H Q => ∃ x d, xs = [x] ∧ Dp K H x d ∧ d.canLay0 = true ∧ d.showable = true ∧ d.depth < 64 ∧ d.shown.length ≤ sizeLine ∧ Q (.str d.shown) H
theorem call_repr {X : Cx} (hgu : X.A.guards = some []) (hu : X.A.units + 64 < cLine) : CallR X (.builtin "repr") (rRepr X.K) := by
  intro pins s σ H xs us Q I r h
  obtain ⟨x, d, rfl, hd, h0, h1, h2, h3, q⟩ := h
  obtain ⟨u, rfl, ru⟩ := vals1 r
  obtain ⟨as, rd⟩ := Dp.reads I d x u hd ru
  have fin : ∀ (h' : Heap) (u : Tok) (tk : Nat), (∀ b o, s.heap.get? b = some o → h'.get? b = some o) → EP X pins σ Q (.str d.shown u) { s with heap := h', toks := tk } := fun h' u tk hk => ⟨.str _, H, I.kept hk, ⟨_, rfl⟩, q⟩
  have nd : d.hasDict = true → sysModules ∉ as := PyData.noDict_hsm (PyData.hasDict_of_canLay d h0)
  cases hd with
  | non => cases ru; exact PySem.P.repr_of_none (by simpa only [PyData.shown] using fin s.heap s.toks (s.toks + 1) fun _ _ e => e)
  | bl b => cases ru; exact PySem.P.repr_of_bool (by simpa only [PyData.shown] using fin s.heap s.toks (s.toks + 1) fun _ _ e => e)
  | int i =>
    obtain ⟨t, rfl⟩ := ru
    exact PySem.P.repr_of_int (by simpa [PyData.showable] using h1) (by simpa only [PyData.shown] using fin s.heap s.toks (s.toks + 1) fun _ _ e => e)
  | str z =>
    obtain ⟨t, rfl⟩ := ru
    exact PySem.P.repr_of_str (by simpa only [PyData.shown] using fin s.heap s.toks (s.toks + 1) fun _ _ e => e) (by simpa only [PyData.shown] using h3)
  | lst hs ha =>
    cases ru
    exact repr_of_reads' rd h1 nd hgu (by omega) (fun _ _ e => e) fin h3
  | tup hs ha =>
    cases ru
    exact repr_of_reads' rd h1 nd hgu (by omega) (fun _ _ e => e) fin h3
theorem one1_some {f : D → Option Vl} {xs : List D} {z : Vl} (h : one1 f xs = some z) : ∃ x, xs = [x] ∧ f x = some z := by
  unfold one1 at h
  split at h
  · exact ⟨_, rfl, h⟩
  · cases h
def two1 (f : D → D → Option Vl) : List D → Option Vl
  | [x, y] => f x y
  | _ => none
theorem two1_some {f : D → D → Option Vl} {xs : List D} {z : Vl} (h : two1 f xs = some z) : ∃ x y, xs = [x, y] ∧ f x y = some z := by
  unfold two1 at h
  split at h
  · exact ⟨_, _, rfl, h⟩
  · cases h
section
variable {w : Wd} {W : WX} {X : Cx} {pos p : Pos} {a b : Expr} {ma mb : ME} {mr : MA} {e : Expr} {es : List Expr}
theorem oN_repr : OpN w (rRepr w.K) (one1 reprD) := fun O H xs z vs Q dm e rs k => by
  have ez := e
  clear e
  obtain ⟨x, rfl, e⟩ := one1_some ez
  clear ez
  obtain ⟨v, rfl, hv⟩ := repl1 rs
  unfold reprD at e
  cases q : toPy x with
  | none => rw [q] at e; cases e
  | some py =>
    rw [q] at e
    have e : (if py.canLay0 = true ∧ py.showable = true ∧ py.depth < 64 ∧ py.shown.length ≤ sizeLine then some (dS py.shown) else none) = some z := e
    split at e
    · rename_i h
      cases e
      exact ⟨v, py, rfl, dp_of x v py hv q, h.1, h.2.1, h.2.2.1, h.2.2.2, k.str⟩
    · cases e
theorem pm_repr {k : Nat} (hK : w.K = X.K) (hgu : X.A.guards = some []) (hr : Room k X.A) (hg : Gl X "repr") (hm : X.mg "repr" = none) (ha : PMA X w W [e] mr) (he : starEach [e] X.env = (false, eval e X.env) :: starEach [] X.env := by rfl) : PM X w W (.Call (.Name "repr" p) [e] [] pos) (mCall (one1 reprD) mr) :=
  pm_callB (call_repr hgu hr.units) (hK ▸ oN_repr) hg hm (by decide +kernel) ha (by decide) (by decide) he

/-! ### len, int, abs, max, min, tuple, list -/
def lenD : D → Option Vl
  | .str x => if x.length ≤ sizeLine then some (dI x.length) else none
  | .lst ds => some (dI ds.length)
  | .tup ds => some (dI ds.length)
  | .scr ds => some (dI ds.length)
  | _ => none
theorem oN_len : OpN w (fun xs H Q => ∃ x n, xs = [x] ∧ LenV w.K x H n ∧ Q (.int n) H) (one1 lenD) := fun O H xs z vs Q dm e rs k => by
  have ez := e
  clear e
  obtain ⟨x, rfl, e⟩ := one1_some ez
  clear ez
  obtain ⟨v, rfl, hv⟩ := repl1 rs
  unfold lenD at e
  split at e
  · split at e
    · cases e
      rw [rep_str hv]
      exact ⟨_, _, rfl, ⟨by assumption, rfl⟩, k.int⟩
    · cases e
  · cases e
    simp only [Rep] at hv
    obtain ⟨a, vs, rfl, h1, h2⟩ := hv
    exact ⟨_, vs.length, rfl, .inl ⟨vs, sl_of_rep h1, rfl⟩, by rw [h2.length]; exact k.int⟩
  · cases e
    simp only [Rep] at hv
    obtain ⟨a, vs, rfl, h1, h2⟩ := hv
    exact ⟨_, vs.length, rfl, .inr ⟨vs, sq_of_rep h1, rfl⟩, by rw [h2.length]; exact k.int⟩
  · cases e
    simp only [Rep] at hv
    obtain ⟨a, vs, rfl, h1, h2⟩ := hv
    exact ⟨_, vs.length, rfl, .inl ⟨vs, h1.imp (fun ⟨o, z⟩ => .inr ⟨o, z.2⟩) id, rfl⟩, by rw [h2.length]; exact k.int⟩
  · cases e
theorem pm_len (hK : w.K = X.K) (hg : Gl X "len") (hm : X.mg "len" = none) (ha : PMA X w W [e] mr) (he : starEach [e] X.env = (false, eval e X.env) :: starEach [] X.env := by rfl) : PM X w W (.Call (.Name "len" p) [e] [] pos) (mCall (one1 lenD) mr) :=
  pm_callB call_len (hK ▸ oN_len) hg hm PySem.boot_len ha (by decide) (by decide) he
def intD : D → Option Vl
  | .int i => some (dI i)
  | .bl b => some (dI (if b then 1 else 0))
  | _ => none
theorem pm_int1 (hg : Gl X "int") (hm : X.mg "int" = none) (ha : PMA X w W [e] mr) (he : starEach [e] X.env = (false, eval e X.env) :: starEach [] X.env := by rfl) : PM X w W (.Call (.Name "int" p) [e] [] pos) (mCall (one1 intD) mr) :=
  pm_callTy call_int1 (fun O H xs z vs Q dm e rs k => by
    obtain ⟨x, rfl, ez⟩ := one1_some e
    clear e
    obtain ⟨v, rfl, hv⟩ := repl1 rs
    unfold intD at ez
    split at ez
    · cases ez
      rw [rep_int hv]
      exact .inl ⟨_, rfl, k.int⟩
    · cases ez
      rw [rep_bl hv]
      exact .inr ⟨_, rfl, k.int⟩
    · cases ez) hg hm (by decide +kernel) ha (by decide) (by decide) he
def absD : D → Option Vl
  | .int i => some (dI (if i < 0 then -i else i))
  | _ => none
theorem pm_abs (hg : Gl X "abs") (hm : X.mg "abs" = none) (ha : PMA X w W [e] mr) (he : starEach [e] X.env = (false, eval e X.env) :: starEach [] X.env := by rfl) : PM X w W (.Call (.Name "abs" p) [e] [] pos) (mCall (one1 absD) mr) :=
  pm_callB call_abs (fun O H xs z vs Q dm e rs k => by
    obtain ⟨x, rfl, ez⟩ := one1_some e
    clear e
    obtain ⟨v, rfl, hv⟩ := repl1 rs
    unfold absD at ez
    split at ez
    · cases ez
      rw [rep_int hv]
      exact ⟨_, rfl, k.int⟩
    · cases ez) hg hm (by decide +kernel) ha (by decide) (by decide) he
def maxD : D → D → Option Vl := int2 fun i j => dI (if j > i then j else i)
def minD : D → D → Option Vl := int2 fun i j => dI (if j < i then j else i)
theorem pm_max (hc : X.calm = true) (hg : Gl X "max") (hm : X.mg "max" = none) (ha : PMA X w W [a, b] mr) (he : starEach [a, b] X.env = (false, eval a X.env) :: starEach [b] X.env := by rfl) (hpl : (backTo pos (starEach [b] X.env)).any (·.1) = false := by rfl) : PM X w W (.Call (.Name "max" p) [a, b] [] pos) (mCall (two1 maxD) mr) :=
  pm_callB (call_max2 hc) (fun O H xs z vs Q dm e rs k => by
    obtain ⟨x, y, rfl, e⟩ := two1_some e
    obtain ⟨v, u, rfl, hv, hu⟩ := repl2 rs
    obtain ⟨i, j, rfl, rfl, rfl⟩ := int2_some e
    rw [rep_int hv, rep_int hu]
    exact ⟨i, j, rfl, k.int⟩) hg hm (by decide +kernel) ha (by decide) (by decide) he hpl
theorem pm_min (hc : X.calm = true) (hg : Gl X "min") (hm : X.mg "min" = none) (ha : PMA X w W [a, b] mr) (he : starEach [a, b] X.env = (false, eval a X.env) :: starEach [b] X.env := by rfl) (hpl : (backTo pos (starEach [b] X.env)).any (·.1) = false := by rfl) : PM X w W (.Call (.Name "min" p) [a, b] [] pos) (mCall (two1 minD) mr) :=
  pm_callB (call_min2 hc) (fun O H xs z vs Q dm e rs k => by
    obtain ⟨x, y, rfl, e⟩ := two1_some e
    obtain ⟨v, u, rfl, hv, hu⟩ := repl2 rs
    obtain ⟨i, j, rfl, rfl, rfl⟩ := int2_some e
    rw [rep_int hv, rep_int hu]
    exact ⟨i, j, rfl, k.int⟩) hg hm (by decide +kernel) ha (by decide) (by decide) he hpl
def tupD : D → Option Vl
  | .lst ds => some (.tup ds, false)
  | .tup ds => some (.tup ds, false)
  | _ => none
theorem pm_tuple (hK : w.K = X.K) (hg : Gl X "tuple") (hm : X.mg "tuple" = none) (ha : PMA X w W [e] mr) (he : starEach [e] X.env = (false, eval e X.env) :: starEach [] X.env := by rfl) : PM X w W (.Call (.Name "tuple" p) [e] [] pos) (mCall (one1 tupD) mr) :=
  pm_callTy call_tuple_of (fun O H xs z vs Q dm e rs k => by
    obtain ⟨x, rfl, ez⟩ := one1_some e
    clear e
    obtain ⟨v, rfl, hv⟩ := repl1 rs
    unfold tupD at ez
    split at ez
    · cases ez
      simp only [Rep] at hv
      obtain ⟨a, vs, rfl, h1, h2⟩ := hv
      exact ⟨a, vs, rfl, .inl ⟨hK ▸ sl_of_rep h1, fun l hl => k.newT dm h2 hl⟩⟩
    · cases ez
      have hv' := hv
      simp only [Rep] at hv
      obtain ⟨a, vs, rfl, h1, h2⟩ := hv
      exact ⟨a, vs, rfl, .inr ⟨hK ▸ sq_of_rep h1, k.val hv'⟩⟩
    · cases ez) hg hm (by decide +kernel) ha (by decide) (by decide) he
def lstD : D → Option Vl
  | .lst ds => some (.lst ds, true)
  | .tup ds => some (.lst ds, true)
  | _ => none
theorem pm_list (hK : w.K = X.K) (hg : Gl X "list") (hm : X.mg "list" = none) (ha : PMA X w W [e] mr) (he : starEach [e] X.env = (false, eval e X.env) :: starEach [] X.env := by rfl) : PM X w W (.Call (.Name "list" p) [e] [] pos) (mCall (one1 lstD) mr) :=
  pm_callTy call_list_of (fun O H xs z vs Q dm e rs k => by
    obtain ⟨x, rfl, ez⟩ := one1_some e
    clear e
    obtain ⟨v, rfl, hv⟩ := repl1 rs
    unfold lstD at ez
    split at ez
    · cases ez
      simp only [Rep] at hv
      obtain ⟨a, vs, rfl, h1, h2⟩ := hv
      exact ⟨a, vs, rfl, .inl (hK ▸ sl_of_rep h1), fun l hl => k.newL h2 hl⟩
    · cases ez
      simp only [Rep] at hv
      obtain ⟨a, vs, rfl, h1, h2⟩ := hv
      exact ⟨a, vs, rfl, .inr (hK ▸ sq_of_rep h1), fun l hl => k.newL h2 hl⟩
    · cases ez) hg hm (by decide +kernel) ha (by decide) (by decide) he

/-! ### x[i] -/
def ixD : D → D → Option Vl
  | .lst ds, .int i => (atI ds i).map fun d => (d, false)
  | .tup ds, .int i => (atI ds i).map fun d => (d, false)
  | .scr ds, .int i => (atI ds i).map fun d => (d, false)
  | .str x, .int i => if x.length ≤ sizeLine then (atI x.cps.toList i).map fun c => dS ⟨#[c]⟩ else none
  | _, _ => none
theorem atI_rep {O : Av} {H : Hp} {ds : List D} {vs : List V} {i : Int} {d : D} (h : RepL w O H ds vs) (e : atI ds i = some d) : ∃ v, atI vs i = some v ∧ Rep w O H d v := by
  unfold atI at e ⊢
  rw [h.length]
  cases q : ixN ds.length i with
  | none => rw [q] at e; cases e
  | some j =>
    rw [q] at e
    have e : ds[j]? = some d := e
    obtain ⟨v, e1, e2⟩ := h.get e
    exact ⟨v, e1, e2⟩
theorem o2_ix : Op2 w (rIx w.K) ixD := fun O H x y z vx vy Q dm e hx hy k => by
  unfold ixD at e
  split at e
  · rename_i ds i
    rw [rep_int hy]
    cases q : atI ds i with
    | none => rw [q] at e; cases e
    | some d =>
      rw [q] at e
      cases e
      simp only [Rep] at hx
      obtain ⟨a, vs, rfl, h1, h2⟩ := hx
      obtain ⟨v, e1, e2⟩ := atI_rep h2 q
      exact .inl ⟨a, vs, i, v, rfl, rfl, sl_of_rep h1, e1, k.val e2⟩
  · rename_i ds i
    rw [rep_int hy]
    cases q : atI ds i with
    | none => rw [q] at e; cases e
    | some d =>
      rw [q] at e
      cases e
      simp only [Rep] at hx
      obtain ⟨a, vs, rfl, h1, h2⟩ := hx
      obtain ⟨v, e1, e2⟩ := atI_rep h2 q
      exact .inr (.inl ⟨a, vs, i, v, rfl, rfl, sq_of_rep h1, e1, k.val e2⟩)
  · rename_i ds i
    rw [rep_int hy]
    cases q : atI ds i with
    | none => rw [q] at e; cases e
    | some d =>
      rw [q] at e
      cases e
      simp only [Rep] at hx
      obtain ⟨a, vs, rfl, h1, h2⟩ := hx
      obtain ⟨v, e1, e2⟩ := atI_rep h2 q
      exact .inl ⟨a, vs, i, v, rfl, rfl, h1.imp (fun ⟨o, z⟩ => .inr ⟨o, z.2⟩) id, e1, k.val e2⟩
  · rename_i x i
    split at e
    · rename_i hz
      rw [rep_int hy, rep_str hx]
      cases q : atI x.cps.toList i with
      | none => rw [q] at e; cases e
      | some c =>
        rw [q] at e
        cases e
        exact .inr (.inr ⟨x, i, c, rfl, rfl, hz, q, k.str⟩)
    · cases e
  · cases e
theorem pm_item (hK : w.K = X.K) (ha : PM X w W a ma) (hb : PM X w W b mb) (hs : PlainIx b := by exact fun _ _ => rfl) : PM X w W (.Subscript a b pos) (mOp2 ixD ma mb) := pm_ix ix_seq (hK ▸ o2_ix) ha hb hs
end
end PM

namespace PM
open PySem L2

/-! ### one's own lists: read, changed -/
/-- an expression behind a slot that holds a list of one's own -/
def mBehind {α : Type} (i : Nat) (m : En → Rs α) (f : α → Sl → Mu → En → Rs Vl) : ME := fun ρ => match muOf i ρ with
  | some (_, .lst _) => (m ρ).bind fun y ρ1 => (match muOf i ρ1 with
    | none => .stuck
    | some (s, m) => f y s m ρ1)
  | _ => .stuck
theorem behind_hold {α : Type} {i : Nat} {m : En → Rs α} {f : α → Sl → Mu → En → Rs Vl} {F : Fr} {W : WX} {O : Av} {σ : St} {H : Hp} {Q : VK} {ρ : En} (R : Rel F O ρ σ H) (h : Hold F W O σ H (RV F σ H) Q (mBehind i m f ρ)) :
    ∃ a vs, σ[i]? = some (some (.ref a)) ∧ H a = some (.lst vs) ∧ Hold F W O σ H (RV F σ H) Q ((m ρ).bind fun y ρ1 => (match muOf i ρ1 with
    | none => .stuck
    | some (s, m) => f y s m ρ1)) := by
  unfold mBehind at h
  split at h
  · rename_i s ds q
    obtain ⟨e0, g0⟩ := muOf_some q
    obtain ⟨a, ea, oa, vs, hv, _⟩ := R.muAt e0 g0
    exact ⟨a, vs, ea, hv, h⟩
  · exact h.elim
def mItemO (i : Nat) (mb : ME) : ME := mBehind i mb fun y s m ρ1 => match m, y.1 with
  | .lst ds, .int k => lift ((atI ds k).map fun d => (d, false)) ρ1
  | _, _ => .stuck
def mAppend (i : Nat) (mr : MA) : ME := mBehind i mr fun ys s m ρ1 => match m, ys with
  | .lst ds, [y] => if ds.length < sizeLine then .ok (.non, false) (ρ1.set i (s.put (.lst (ds ++ [y])))) else .stuck
  | _, _ => .stuck
def mPopAt (i : Nat) (mr : MA) : ME := mBehind i mr fun ys s m ρ1 => match m, ys with
  | .lst ds, [.int k] => if 0 ≤ k ∧ k < 2 ^ 63 then (match ds[k.toNat]? with
    | some d => .ok (d, false) (ρ1.set i (s.put (.lst (ds.eraseIdx k.toNat))))
    | none => .stuck) else .stuck
  | _, _ => .stuck
def mPop (i : Nat) : ME := mBehind i mNil fun ys s m ρ1 => match m, ys with
  | .lst ds, [] => (match ds[ds.length - 1]? with
    | some d => .ok (d, false) (ρ1.set i (s.put (.lst ds.dropLast)))
    | none => .stuck)
  | _, _ => .stuck
def mLenO (i : Nat) : ME := mBehind i mNil fun _ s m ρ1 => match m with
  | .lst ds => .ok (dI ds.length) ρ1
  | _ => .stuck
def mSetItem (i : Nat) (mk mv : ME) : MS := fun ρ => (mv ρ).bind fun y ρ1 => match muOf i ρ1 with
  | none => .stuck
  | some _ => (mk ρ1).bind fun k ρ2 => match muOf i ρ2, k.1 with
    | some (s, .lst ds), .int j => (match ixN ds.length j with
      | some n => .ok .nx (ρ2.set i (s.put (.lst (ds.set n y.1))))
      | none => .stuck)
    | _, _ => .stuck
section
variable {w : Wd} {W : WX} {F : Fr} {O : Av} {ρ : En} {σ : St} {H : Hp}
theorem mut_lst {i : Nat} {s : Sl} {m : Mu} {a : Addr} {vs : List V} {ds : List D} (R : Rel F O ρ σ H) (e : ρ[i]? = some s) (g : s.get = some m) (ea : σ[i]? = some (some (.ref a))) (ho : O a) (h : RepL F.w O H ds vs) :
    Rel F O (ρ.set i (s.put (.lst ds))) σ (upd H a (.lst vs)) ∧ Step O H O (upd H a (.lst vs)) :=
  ⟨R.mut e g ea ho ⟨vs, upd_same, RepL.step (mut_step ho) ds vs h⟩, mut_step ho⟩
theorem RepL.set : ∀ {ds : List D} {vs : List V} {n : Nat} {d : D} {v : V}, RepL w O H ds vs → Rep w O H d v → RepL w O H (ds.set n d) (vs.set n v)
  | [], vs, n, d, v, h, k => by
    simp only [RepL] at h
    subst h
    simp [RepL]
  | x :: ds, vs, n, d, v, h, k => by
    simp only [RepL] at h
    obtain ⟨u, us, rfl, h1, h2⟩ := h
    cases n with
    | zero =>
      simp only [List.set_cons_zero, RepL]
      exact ⟨v, us, rfl, k, h2⟩
    | succ n =>
      simp only [List.set_cons_succ, RepL]
      exact ⟨u, _, rfl, h1, RepL.set h2 k⟩
theorem RepL.erase : ∀ {ds : List D} {vs : List V} {n : Nat}, RepL w O H ds vs → RepL w O H (ds.eraseIdx n) (vs.eraseIdx n)
  | [], vs, n, h => by
    simp only [RepL] at h
    subst h
    simp [RepL]
  | x :: ds, vs, n, h => by
    simp only [RepL] at h
    obtain ⟨u, us, rfl, h1, h2⟩ := h
    cases n with
    | zero => simpa using h2
    | succ n =>
      simp only [List.eraseIdx_cons_succ, RepL]
      exact ⟨u, _, rfl, h1, RepL.erase h2⟩
theorem RepL.dropLast : ∀ {ds : List D} {vs : List V}, RepL w O H ds vs → RepL w O H ds.dropLast vs.dropLast
  | [], vs, h => by
    simp only [RepL] at h
    subst h
    simp [RepL]
  | [x], vs, h => by
    obtain ⟨v, rfl, _⟩ := repl1 h
    simp [RepL]
  | x :: y :: ds, vs, h => by
    simp only [RepL] at h
    obtain ⟨u, us, rfl, h1, v, vs', rfl, h2, h3⟩ := h
    have := RepL.dropLast (ds := y :: ds) (vs := v :: vs') (by simp only [RepL]; exact ⟨v, vs', rfl, h2, h3⟩)
    simp only [List.dropLast_cons₂, RepL]
    exact ⟨u, _, rfl, h1, this⟩
end
section
variable {w : Wd} {W : WX} {X : Cx} {pos p apos : Pos} {x : Str} {b e : Expr} {mb : ME} {mr : MA}
theorem pm_itemO (i : Nat) (hK : w.K = X.K) (hb : PM X w W b mb) (hs : PlainIx b := by exact fun _ _ => rfl) (hN : X.N[i]? = some x := by rfl) (hv : Vis X.env.scope x := by first | exact Or.inl rfl | exact Or.inr (Or.inl rfl) | exact Or.inr (Or.inr rfl)) (hd : (x == ("__debug__" : Str)) = false := by decide)
    (hcd : (x == ("__classdict__" : Str)) = false := by decide) : PM X w W (.Subscript (.Name x p) b pos) (mItemO i mb) := by
  obtain ⟨tb, pb, sb⟩ := hb
  refine ⟨_, pe_ix ix_seq (pv i hN hv hd hcd) pb hs, fun F O ρ σ H Q hw R hh => ?_⟩
  subst hw
  obtain ⟨a, vs0, ea, ha, hh⟩ := behind_hold R hh
  refine ⟨.ref a, ea, ?_⟩
  refine sb.bind rfl R hh fun y u ρ1 O1 H1 st1 R1 ry h1 => ?_
  split at h1
  · exact h1.elim
  · rename_i s m q1
    obtain ⟨e1, g1⟩ := muOf_some q1
    obtain ⟨a', ea', oa', ma'⟩ := R1.muAt e1 g1
    rw [ea] at ea'
    cases ea'
    split at h1
    · rename_i ds k ey
      rw [ey] at ry
      rw [rep_int ry]
      obtain ⟨vs, hv, hr⟩ := ma'
      cases q : atI ds k with
      | none => rw [q] at h1; exact h1.elim
      | some d =>
        rw [q] at h1
        obtain ⟨v, e2, e3⟩ := atI_rep hr q
        exact .inl ⟨a, vs, k, v, rfl, rfl, .inl (.inl hv), e2, (Hold.go (z := (d, false)) h1 st1 R1).val e3⟩
    · exact h1.elim
theorem sim_mut {r : V → List V → Hp → VK → Prop} {i : Nat} {ta : TA} {f : List D → Sl → Mu → En → Rs Vl} (sr : SimA w W ta mr)
    (hf : ∀ (F : Fr) (O : Av) (ρ : En) (σ : St) (H : Hp) (a : Addr) (ys : List D) (us : List V) (s : Sl) (m : Mu) (Q : VK), F.w = w → Rel F O ρ σ H → ρ[i]? = some s → s.get = some m → σ[i]? = some (some (.ref a)) → O a → MuAt F.w O H a m → RepL F.w O H ys us → Hold F W O σ H (RV F σ H) Q (f ys s m ρ) → r (.ref a) us H Q) :
    Sim w W (tBM w.K "list" r (tVar i) ta) (mBehind i mr f) := fun F O ρ σ H Q hw R hh => by
  subst hw
  obtain ⟨a, vs0, ea, ha, hh⟩ := behind_hold R hh
  refine ⟨.ref a, ea, .inl ⟨rfl, vs0, .inl (.inl ha)⟩, ?_⟩
  refine sr.bind rfl R hh fun ys us ρ1 O1 H1 st1 R1 rs h1 => ?_
  split at h1
  · exact h1.elim
  · rename_i s m q1
    obtain ⟨e1, g1⟩ := muOf_some q1
    obtain ⟨a', ea', oa', ma'⟩ := R1.muAt e1 g1
    rw [ea] at ea'
    cases ea'
    exact hf F O1 ρ1 σ H1 a ys us s m Q rfl R1 e1 g1 ea oa' ma' rs (h1.laterV st1)
/-- the end of a change: a value out of it, the list changed -/
theorem Hold.mut {F : Fr} {W : WX} {O : Av} {σ : St} {H : Hp} {Q : VK} {ρ : En} {i : Nat} {s : Sl} {m : Mu} {a : Addr} {ds' : List D} {vs' : List V} {d : D} {v : V} (h : Hold F W O σ H (RV F σ H) Q (.ok (d, false) (ρ.set i (s.put (.lst ds'))))) (R : Rel F O ρ σ H) (e : ρ[i]? = some s) (g : s.get = some m)
    (ea : σ[i]? = some (some (.ref a))) (ho : O a) (hr : RepL F.w O H ds' vs') (hv : Rep F.w O H d v) : Q v (upd H a (.lst vs')) := by
  obtain ⟨R', st⟩ := mut_lst R e g ea ho hr
  exact h O _ v st R' (Rep.step st d v hv)
theorem pm_append (i : Nat) (hK : w.K = X.K) (ha : PMA X w W [e] mr) (hN : X.N[i]? = some x := by rfl) (hv : Vis X.env.scope x := by first | exact Or.inl rfl | exact Or.inr (Or.inl rfl) | exact Or.inr (Or.inr rfl)) (hd : (x == ("__debug__" : Str)) = false := by decide)
    (hcd : (x == ("__classdict__" : Str)) = false := by decide) (hbase : attributeBase (.Name x p) "append" X.env (eval (.Name x p) X.env) = eval (.Name x p) X.env := by rfl)
    (hfew : ((backTo pos (starEach [e] X.env)).all (fun x => !x.1) && (backToKw pos (keywordEach [] X.env)).all (fun x => x.1.isSome)
      && decide ([e].length + ([] : List Keyword).length + (if ([] : List Keyword).isEmpty then 0 else 1) < 30)) = true := by rfl) (hline : (apos.endLine == pos.line) = true := by rfl) (hs : starEach [e] X.env = (false, eval e X.env) :: starEach [] X.env := by rfl) :
    PM X w W (.Call (.Attribute (.Name x p) "append" apos) [e] [] pos) (mAppend i mr) := by
  obtain ⟨ta, pa, sa⟩ := ha
  refine ⟨_, pe_bm PySem.F.plainAttrs_list PySem.F.slot_list_append PySem.F.type_list_append mt_append (pv i hN hv hd hcd) pa hbase hfew hline hs, ?_⟩
  rw [← hK]
  refine sim_mut sa fun F O ρ σ H a ys us s m Q hw R e1 g1 ea oa ma rs hh => ?_
  split at hh
  · rename_i ds y
    obtain ⟨u, rfl, hu⟩ := repl1 rs
    obtain ⟨vs, hvs, hr⟩ := ma
    split at hh
    · rename_i hz
      refine ⟨a, vs, u, rfl, rfl, hvs, by rw [hr.length]; exact hz, ?_⟩
      exact hh.mut (d := .non) R e1 g1 ea oa (hr.append (by simp only [RepL]; exact ⟨u, [], rfl, hu, rfl⟩)) (by simp only [Rep])
    · exact hh.elim
  · exact hh.elim
theorem pm_popAt (i : Nat) (hK : w.K = X.K) (ha : PMA X w W [e] mr) (hN : X.N[i]? = some x := by rfl) (hv : Vis X.env.scope x := by first | exact Or.inl rfl | exact Or.inr (Or.inl rfl) | exact Or.inr (Or.inr rfl)) (hd : (x == ("__debug__" : Str)) = false := by decide)
    (hcd : (x == ("__classdict__" : Str)) = false := by decide) (hbase : attributeBase (.Name x p) "pop" X.env (eval (.Name x p) X.env) = eval (.Name x p) X.env := by rfl)
    (hfew : ((backTo pos (starEach [e] X.env)).all (fun x => !x.1) && (backToKw pos (keywordEach [] X.env)).all (fun x => x.1.isSome)
      && decide ([e].length + ([] : List Keyword).length + (if ([] : List Keyword).isEmpty then 0 else 1) < 30)) = true := by rfl) (hline : (apos.endLine == pos.line) = true := by rfl) (hs : starEach [e] X.env = (false, eval e X.env) :: starEach [] X.env := by rfl) :
    PM X w W (.Call (.Attribute (.Name x p) "pop" apos) [e] [] pos) (mPopAt i mr) := by
  obtain ⟨ta, pa, sa⟩ := ha
  refine ⟨_, pe_bm PySem.F.plainAttrs_list PySem.F.slot_list_pop PySem.F.type_list_pop mt_popAt (pv i hN hv hd hcd) pa hbase hfew hline hs, ?_⟩
  rw [← hK]
  refine sim_mut sa fun F O ρ σ H a ys us s m Q hw R e1 g1 ea oa ma rs hh => ?_
  split at hh
  · rename_i ds k
    obtain ⟨u, rfl, hu⟩ := repl1 rs
    obtain ⟨vs, hvs, hr⟩ := ma
    split at hh
    · rename_i hz
      split at hh
      · rename_i d hd
        obtain ⟨v, e2, e3⟩ := hr.get hd
        rw [rep_int hu]
        have hlt : k.toNat < vs.length := lt_of_get e2
        refine ⟨a, vs, k, k.toNat, v, rfl, rfl, hvs, by omega, hz.2, ?_, e2, hh.mut R e1 g1 ea oa hr.erase e3⟩
        have q := (ixN_seq (n := vs.length) (i := k) (j := k.toNat) (by unfold ixN; rw [if_pos hz.1, if_pos (by omega)])).1
        exact q
      · exact hh.elim
    · exact hh.elim
  · exact hh.elim
theorem pm_pop (i : Nat) (hK : w.K = X.K) (hN : X.N[i]? = some x := by rfl) (hv : Vis X.env.scope x := by first | exact Or.inl rfl | exact Or.inr (Or.inl rfl) | exact Or.inr (Or.inr rfl)) (hd : (x == ("__debug__" : Str)) = false := by decide)
    (hcd : (x == ("__classdict__" : Str)) = false := by decide) (hbase : attributeBase (.Name x p) "pop" X.env (eval (.Name x p) X.env) = eval (.Name x p) X.env := by rfl) (hline : (apos.endLine == pos.line) = true := by rfl) :
    PM X w W (.Call (.Attribute (.Name x p) "pop" apos) [] [] pos) (mPop i) := by
  refine ⟨_, pe_bm0 PySem.F.plainAttrs_list PySem.F.slot_list_pop PySem.F.type_list_pop mt_pop (pv i hN hv hd hcd) hbase hline, ?_⟩
  rw [← hK]
  have z : tBM0 w.K "list" rPop (tVar i) = tBM w.K "list" rPop (tVar i) tNil := rfl
  rw [z]
  refine sim_mut sima_nil fun F O ρ σ H a ys us s m Q hw R e1 g1 ea oa ma rs hh => ?_
  split at hh
  · rename_i ds
    obtain ⟨vs, hvs, hr⟩ := ma
    split at hh
    · rename_i d hd
      obtain ⟨v, e2, e3⟩ := hr.get hd
      have eu : us = [] := by simpa only [RepL] using rs
      subst eu
      exact ⟨a, vs, v, rfl, rfl, hvs, by rw [hr.length]; exact e2, hh.mut R e1 g1 ea oa hr.dropLast e3⟩
    · exact hh.elim
  · exact hh.elim
theorem pm_lenO (i : Nat) (hK : w.K = X.K) (hg : Gl X "len") (hm : X.mg "len" = none) (hN : X.N[i]? = some x := by rfl) (hv : Vis X.env.scope x := by first | exact Or.inl rfl | exact Or.inr (Or.inl rfl) | exact Or.inr (Or.inr rfl)) (hd : (x == ("__debug__" : Str)) = false := by decide)
    (hcd : (x == ("__classdict__" : Str)) = false := by decide) (he : starEach [.Name x p] X.env = (false, eval (.Name x p) X.env) :: starEach [] X.env := by rfl) : PM X w W (.Call (.Name "len" apos) [.Name x p] [] pos) (mLenO i) := by
  refine ⟨_, pe_callB call_len hg hm PySem.boot_len (pa_cons (pv i hN hv hd hcd) pa_nil he) (by decide) (by decide) he, fun F O ρ σ H Q hw R hh => ?_⟩
  subst hw
  unfold mLenO mBehind at hh
  split at hh
  · rename_i s ds q
    obtain ⟨e0, g0⟩ := muOf_some q
    obtain ⟨a, ea, oa, vs, hv, hr⟩ := R.muAt e0 g0
    have hh : Hold F W O σ H (RV F σ H) Q (match muOf i ρ with
      | none => .stuck
      | some (s, m) => (match m with
        | .lst ds => .ok (dI ds.length) ρ
        | _ => .stuck)) := hh
    rw [q] at hh
    refine ⟨.ref a, ea, .ref a, vs.length, rfl, .inl ⟨vs, .inl (.inl hv), rfl⟩, ?_⟩
    rw [hr.length]
    exact Go.int (hh.go (Step.refl _ _) R)
  · exact hh.elim
/-- x[k] = v -/
theorem pms_setItem (i : Nat) {k v : Expr} {mk mv : ME} {spos : Pos} (hv : PM X w W v mv) (hk : PM X w W k mk) (hN : X.N[i]? = some x := by rfl) (hvi : Vis X.env.scope x := by first | exact Or.inl rfl | exact Or.inr (Or.inl rfl) | exact Or.inr (Or.inr rfl)) (hd : (x == ("__debug__" : Str)) = false := by decide)
    (hcd : (x == ("__classdict__" : Str)) = false := by decide)
    (ha : ∀ u, assign (.Subscript (.Name x p) k pos) X.env u = (do
      let ov ← holding [u] (eval (.Name x p) X.env)
      let iv ← holding [u, ov] (eval k X.env)
      standAt pos
      holding [u, ov, iv] (setItem ov iv u)
      release [u, ov, iv] []) := by intro _; rfl)
    (hs : swapsWithSole [.Subscript (.Name x p) k pos] v spos.line X.env = pure false := by rfl) (hw' : swappedStores [.Subscript (.Name x p) k pos] v X.env = pure none := by rfl)
    (h1 : (assignEach [.Subscript (.Name x p) k pos] X.env).map (·.2) = [assign (.Subscript (.Name x p) k pos) X.env] := by rfl) : PMS X w W (.Assign [.Subscript (.Name x p) k pos] v spos) (mSetItem i mk mv) := by
  obtain ⟨tv, pv', sv⟩ := hv
  obtain ⟨tk, pk, sk⟩ := hk
  refine ⟨_, ps_asg pv' (pg_sub (pv i hN hvi hd hcd) pk set_list ha) hs hw' h1, fun F O ρ σ H E hw R hh => ?_⟩
  refine sv.bindS hw R hh fun y u ρ1 O1 H1 st1 R1 rv h2 => ?_
  obtain ⟨O2, s2, R2, r2, s3⟩ := VlAt.release st1 R1 R.doh rv
  have h2 := h2.later s3
  split at h2
  · exact h2.elim
  · rename_i sm q0
    obtain ⟨e0, g0⟩ := muOf_some (s := sm.1) (m := sm.2) q0
    obtain ⟨a, ea, oa, _⟩ := R2.muAt e0 g0
    refine ⟨.ref a, ea, ?_⟩
    refine sk.bindS hw R2 h2 fun kk uk ρ2 O3 H3 st3 R3 rk h3 => ?_
    obtain ⟨O4, s4, R4, r4, s5⟩ := VlAt.release st3 R3 R2.doh rk
    have h3 := h3.later s5
    split at h3
    · rename_i s ds j q1 ek
      obtain ⟨e1, g1⟩ := muOf_some q1
      obtain ⟨a', ea', oa', vs, hvs, hr⟩ := R4.muAt e1 g1
      rw [ea] at ea'
      cases ea'
      rw [ek] at r4
      rw [rep_int r4]
      split at h3
      · rename_i n hn
        refine ⟨a, vs, j, n, rfl, rfl, hvs, by rw [hr.length]; exact hn, ?_⟩
        obtain ⟨R', st⟩ := mut_lst R4 e1 g1 ea oa' (RepL.set (n := n) hr (Rep.step s4 _ _ r2))
        exact h3 O4 σ _ st R'
      · exact h3.elim
    · exact h3.elim
end
end PM

namespace PM
open PySem L2

/-! ### what is walked -/
def ItOk (w : Wd) (ds : List D) (O1 : Av) (H1 : Hp) (J : It) : Prop := ∃ (G : Hp → Prop) (Y : Nat → Hp → V → Hp → Prop), Walk J ds.length G Y ∧ (∀ O' H', Step O1 H1 O' H' → G H') ∧
  ∀ (i : Nat) (O' : Av) (H' : Hp) (x : V) (H'' : Hp), i < ds.length → Step O1 H1 O' H' → Dm O' H' → Y i H' x H'' → Grow H' H'' ∧ ∃ d, ds.drop i = d :: ds.drop (i + 1) ∧ Rep w O' H'' d x
abbrev MI := En → Rs (List D)
def RIt (w : Wd) : En → Av → Hp → It → List D → Prop := fun _ O' H' J ds => ItOk w ds O' H' J
def SimI (w : Wd) (W : WX) (wi : TI) (mi : MI) : Prop := ∀ (F : Fr) (O : Av) (ρ : En) (σ : St) (H : Hp) (R : It → Hp → Prop), F.w = w → Rel F O ρ σ H → Hold F W O σ H (RIt F.w) R (mi ρ) → wi σ H R
def PMI (X : Cx) (w : Wd) (W : WX) (tg it : Expr) (mi : MI) : Prop := ∃ wi, PI X tg it wi ∧ SimI w W wi mi
theorem SimI.bindS {w : Wd} {W : WX} {wi : TI} {mi : MI} (ha : SimI w W wi mi) {F : Fr} {O : Av} {ρ : En} {σ : St} {H : Hp} (hw : F.w = w) (R : Rel F O ρ σ H) {E : Ends} {f : List D → En → Rs Fl} (h : HoldS F W O H E ((mi ρ).bind f)) {k : It → Hp → Prop}
    (hk : ∀ (ds : List D) (J : It) (ρ1 : En) (O1 : Av) (H1 : Hp), Step O H O1 H1 → Rel F O1 ρ1 σ H1 → ItOk F.w ds O1 H1 J → HoldS F W O1 H1 E (f ds ρ1) → k J H1) : wi σ H k := by
  refine ha F O ρ σ H k hw R ?_
  cases e : mi ρ with
  | ok x ρ1 =>
    rw [e] at h
    exact fun O1 H1 v st R1 rv => hk x v ρ1 O1 H1 st R1 rv (h.later st)
  | exc x ρ1 =>
    rw [e] at h
    exact fun O1 H1 cls d st R1 xa => h O1 σ H1 cls d st R1 xa
  | stuck =>
    rw [e] at h
    exact h
theorem SimI.bind {w : Wd} {W : WX} {wi : TI} {mi : MI} (ha : SimI w W wi mi) {F : Fr} {O : Av} {ρ : En} {σ : St} {H : Hp} (hw : F.w = w) (R : Rel F O ρ σ H) {α β : Type} {RA : En → Av → Hp → β → α → Prop} {Q : β → Hp → Prop} {f : List D → En → Rs α}
    (h : Hold F W O σ H RA Q ((mi ρ).bind f)) {k : It → Hp → Prop}
    (hk : ∀ (ds : List D) (J : It) (ρ1 : En) (O1 : Av) (H1 : Hp), Step O H O1 H1 → Rel F O1 ρ1 σ H1 → ItOk F.w ds O1 H1 J → Hold F W O σ H RA Q (f ds ρ1) → k J H1) : wi σ H k := by
  refine ha F O ρ σ H k hw R ?_
  cases e : mi ρ with
  | ok x ρ1 =>
    rw [e] at h
    exact fun O1 H1 v st R1 rv => hk x v ρ1 O1 H1 st R1 rv h
  | exc x ρ1 =>
    rw [e] at h
    exact fun O1 H1 cls d st R1 xa => h O1 H1 cls d st R1 xa
  | stuck =>
    rw [e] at h
    exact h
def itL : D → Option (List D)
  | .lst ds => some ds
  | _ => none
def itT : D → Option (List D)
  | .tup ds => some ds
  | _ => none
def signs (z : Str) : List D := z.cps.toList.map fun c => .str ⟨#[c]⟩
def itS : D → Option (List D)
  | .str z => some (signs z)
  | _ => none
def mIt (f : D → Option (List D)) (m : ME) : MI := fun ρ => (m ρ).bind fun x ρ1 => lift (f x.1) ρ1
def mItA (f : List D → Option (List D)) (m : MA) : MI := fun ρ => (m ρ).bind fun x ρ1 => lift (f x) ρ1
theorem ItOk.at {w : Wd} {O1 : Av} {H1 : Hp} {J : It} {ds : List D} {vs : List V} {G : Hp → Prop} (hw : Walk J vs.length G (YAt vs)) (hr : RepL w O1 H1 ds vs) (hG : ∀ O' H', Step O1 H1 O' H' → G H') : ItOk w ds O1 H1 J := by
  refine ⟨G, YAt vs, hr.length ▸ hw, hG, fun i O' H' x H'' hi st dm y => ?_⟩
  obtain ⟨rfl, e⟩ := y
  obtain ⟨d, e1, e2⟩ := hr.at e
  exact ⟨Grow.refl _, d, e1, Rep.step st _ _ e2⟩
section
variable {w : Wd} {W : WX} {X : Cx} {pos p : Pos} {it tg : Expr} {m : ME} {mr : MA} {a b : Expr}
theorem pmi_list (hK : w.K = X.K) (h : PM X w W it m) : PMI X w W tg it (mIt itL m) := by
  obtain ⟨t, p, s⟩ := h
  refine ⟨_, pi_list p, fun F O ρ σ H R hw R0 hh => ?_⟩
  subst hw
  refine s.bind rfl R0 hh fun x v ρ1 O1 H1 st R1 rx h1 => ?_
  cases q : itL x.1 with
  | none => rw [q] at h1; exact h1.elim
  | some ds =>
    rw [q] at h1
    have ex : x.1 = .lst ds := by
      revert q
      cases x.1 <;> simp [itL]
    rw [ex] at rx
    simp only [Rep] at rx
    obtain ⟨c, vs, rfl, hq, hr⟩ := rx
    refine ⟨c, rfl, ⟨vs, hK ▸ sl_of_rep hq⟩, h1 O1 H1 _ st R1 (ItOk.at walk_list hr fun O' H' st' => hK ▸ sl_of_rep (At.step st' hq))⟩
theorem pmi_tup (hK : w.K = X.K) (h : PM X w W it m) : PMI X w W tg it (mIt itT m) := by
  obtain ⟨t, p, s⟩ := h
  refine ⟨_, pi_tup p, fun F O ρ σ H R hw R0 hh => ?_⟩
  subst hw
  refine s.bind rfl R0 hh fun x v ρ1 O1 H1 st R1 rx h1 => ?_
  cases q : itT x.1 with
  | none => rw [q] at h1; exact h1.elim
  | some ds =>
    rw [q] at h1
    have ex : x.1 = .tup ds := by
      revert q
      cases x.1 <;> simp [itT]
    rw [ex] at rx
    simp only [Rep] at rx
    obtain ⟨c, vs, rfl, hq, hr⟩ := rx
    refine ⟨c, rfl, ⟨vs, hK ▸ sq_of_rep hq⟩, h1 O1 H1 _ st R1 (ItOk.at walk_tup hr fun O' H' st' => hK ▸ sq_of_rep (hq.imp (At.step st') id))⟩
theorem pmi_str (h : PM X w W it m) : PMI X w W tg it (mIt itS m) := by
  obtain ⟨t, p, s⟩ := h
  refine ⟨_, pi_str p, fun F O ρ σ H R hw R0 hh => ?_⟩
  subst hw
  refine s.bind rfl R0 hh fun x v ρ1 O1 H1 st R1 rx h1 => ?_
  cases q : itS x.1 with
  | none => rw [q] at h1; exact h1.elim
  | some ds =>
    rw [q] at h1
    obtain ⟨z, ex, ez⟩ : ∃ z, x.1 = .str z ∧ ds = signs z := by
      revert q
      cases x.1 <;> simp [itS]
      intro h
      exact h.symm
    subst ez
    rw [ex] at rx
    refine ⟨z, rep_str rx, h1 O1 H1 _ st R1 ⟨fun _ => True, fun i H v H' => H' = H ∧ ∃ c, z.cps[i]? = some c ∧ v = .str ⟨#[c]⟩, ?_, fun _ _ _ => trivial, fun i O' H' x H'' hi st' dm y => ?_⟩⟩
    · have : (signs z).length = z.cps.size := by simp [signs]
      rw [this]
      exact walk_str
    · obtain ⟨rfl, c, e, rfl⟩ := y
      refine ⟨Grow.refl _, .str ⟨#[c]⟩, ?_, by simp only [Rep]⟩
      have hlt : i < z.cps.toList.length := by simpa [signs] using hi
      have e' : z.cps.toList[i] = c := by
        have := Array.getElem?_eq_some_iff.mp e
        obtain ⟨h, e⟩ := this
        simpa using e
      unfold signs
      rw [← List.map_drop, ← List.map_drop, List.drop_eq_getElem_cons hlt, List.map_cons, e']
theorem itok_rg {lo : Int} {n : Nat} {O1 : Av} {H1 : Hp} : ItOk w (rgL lo n) O1 H1 (Itr lo n) := by
  refine ⟨fun _ => True, YFn fun i => .int (lo + i), ?_, fun _ _ _ => trivial, fun i O' H' x H'' hi st' dm y => ?_⟩
  · rw [rgL_length]
    exact walk_range
  · obtain ⟨rfl, rfl⟩ := y
    rw [rgL_length] at hi
    exact ⟨Grow.refl _, _, rgL_drop lo n i hi, by simp only [Rep]⟩
theorem pmi_range1 (hg : Gl X "range") (hm : X.mg "range" = none) (ha : PMA X w W [a] mr) (hst : starEach [a] X.env = [(false, eval a X.env)] := by rfl) : PMI X w W tg (.Call (.Name "range" p) [a] [] pos) (mItA rng1 mr) := by
  obtain ⟨t, pa, s⟩ := ha
  refine ⟨_, pi_range1 hg hm pa hst, fun F O ρ σ H R hw R0 hh => ?_⟩
  subst hw
  refine s.bind rfl R0 hh fun xs vs ρ1 O1 H1 st R1 rs h1 => ?_
  cases q : rng1 xs with
  | none => rw [q] at h1; exact h1.elim
  | some ds =>
    rw [q] at h1
    unfold rng1 at q
    split at q
    · rename_i j
      split at q
      · rename_i hj
        cases q
        obtain ⟨v, rfl, r1⟩ := repl1 rs
        rw [rep_int r1]
        exact ⟨j, rfl, hj.1, hj.2, h1 O1 H1 _ st R1 itok_rg⟩
      · cases q
    · cases q
theorem pmi_range2 (hg : Gl X "range") (hm : X.mg "range" = none) (ha : PMA X w W [a, b] mr) (hst : starEach [a, b] X.env = [(false, eval a X.env), (false, eval b X.env)] := by rfl) (hst2 : starEach [b] X.env = [(false, eval b X.env)] := by rfl) : PMI X w W tg (.Call (.Name "range" p) [a, b] [] pos) (mItA rng2 mr) := by
  obtain ⟨t, pa, s⟩ := ha
  refine ⟨_, pi_range2 hg hm pa hst hst2, fun F O ρ σ H R hw R0 hh => ?_⟩
  subst hw
  refine s.bind rfl R0 hh fun xs vs ρ1 O1 H1 st R1 rs h1 => ?_
  cases q : rng2 xs with
  | none => rw [q] at h1; exact h1.elim
  | some ds =>
    rw [q] at h1
    unfold rng2 at q
    split at q
    · rename_i i j
      split at q
      · rename_i hj
        cases q
        obtain ⟨v, u, rfl, r1, r2⟩ := repl2 rs
        rw [rep_int r1, rep_int r2]
        exact ⟨i, j, rfl, hj, h1 O1 H1 _ st R1 itok_rg⟩
      · cases q
    · cases q
end

/-! ### for -/
def mFor (mi : MI) (g : MG) (body : MS) : MS := fun ρ => (mi ρ).bind fun ds ρ1 => mLoop g body ds ρ1
section
variable {w : Wd} {W : WX} {X : Cx} {pos : Pos} {it tg : Expr} {mi : MI} {body : List Stmt} {mb : MS} {g : MG} {js : List Nat}
theorem pms_for (hp : PassesOwn (model X.prog X.w) X.A X.env X.xe) (hc : X.calm = true) (hi : PMI X w W tg it mi) (hg : PMG X w tg g js) (hb : PMSs X w W body mb) (hs : ∀ x, foldedSetIterable it X.env x = pure x := by intro _; rfl) :
    PMS X w W (.For tg it body [] pos) (mFor mi g mb) := by
  obtain ⟨wi, pi, si⟩ := hi
  obtain ⟨gg, pg, sg⟩ := hg
  obtain ⟨tb, pb, sb⟩ := hb
  refine ⟨_, ps_for hp hc pi pg pb hs, fun F O ρ σ H E hw R hh => ?_⟩
  refine si.bindS hw R hh fun ds J ρ1 O1 H1 st1 R1 io h1 => ?_
  obtain ⟨G, Y, wk, hG, hY⟩ := io
  refine for_it wk (fun i σ' H' => ∃ O' ρ', Step O1 H1 O' H' ∧ Rel F O' ρ' σ' H' ∧ HoldS F W O1 H1 E (mLoop g mb (ds.drop i) ρ')) ⟨O1, ρ1, Step.refl _ _, R1, h1⟩ ?_ ?_ ?_
  · rintro i σ' H' _ ⟨O', ρ', st, R', _⟩
    exact hG O' H' st
  · rintro i x σ' H' H'' hi ⟨O', ρ', st, R', hl⟩ y
    obtain ⟨gr, d, ed, rd⟩ := hY i O' H' x H'' hi st R'.dom y
    rw [ed] at hl
    exact loop_turn sg sb hw (R'.grow gr) (hw ▸ rd) (st.trans gr.step) hl fun O3 ρ3 σ3 H3 st3 R3 h3 => ⟨O3, ρ3, st3, R3, h3⟩
  · rintro σ' H' ⟨O', ρ', st, R', hl⟩
    rw [List.drop_length] at hl
    exact hl O' σ' H' st R'
end

/-! ### a frame within the frame: nothing but the slots' own lists is changed -/
def ownAt (ρ : En) (σ : St) (a : Addr) : Prop := ∃ (i : Nat) (m : Mu), ρ[i]? = some (.own m) ∧ σ[i]? = some (some (.ref a))
open Classical in
noncomputable def heLess (ρ : En) (σ : St) (H : Hp) : Hp := fun a => if ownAt ρ σ a then none else H a
section
variable {F : Fr} {O : Av} {ρ : En} {σ : St} {H : Hp}
theorem heLess_some {a : Addr} {o : HO} (h : heLess ρ σ H a = some o) : H a = some o ∧ ¬ ownAt ρ σ a := by
  unfold heLess at h
  split at h
  · cases h
  · exact ⟨h, by assumption⟩
theorem heLess_not {a : Addr} (h : ¬ ownAt ρ σ a) : heLess ρ σ H a = H a := by
  unfold heLess
  rw [if_neg h]
theorem heLess_own {a : Addr} (h : ownAt ρ σ a) : heLess ρ σ H a = none := by
  unfold heLess
  rw [if_pos h]
/-- the frame within, with d guarded besides -/
noncomputable def Fr.within (F : Fr) (ρ : En) (σ : St) (H : Hp) (d : Addr) : Fr := ⟨F.w, ins F.B d, F.Io, heLess ρ σ H⟩
theorem own_he (R : Rel F O ρ σ H) {a : Addr} (h : ownAt ρ σ a) : F.He a = none := by
  obtain ⟨i, m, e1, e2⟩ := h
  obtain ⟨b, q1, q2, q3, _⟩ := R.slot i _ e1
  rw [e2] at q1
  cases q1
  exact q3
theorem Rel.within (R : Rel F O ρ σ H) {d : Addr} (hd : O d) (ap : Apart ρ σ d) : Rel (F.within ρ σ H d) O ρ σ H where
  len := R.len
  b0 := fun a h => h.elim (R.b0 a) fun e => by rw [e]; exact hd
  bh := fun a h => by
    have na : ¬ ownAt ρ σ a := fun ow => by
      rcases h with h | h
      · exact R.bh a h (own_he R ow)
      · obtain ⟨i, m, e1, e2⟩ := ow
        subst h
        exact ap i _ e1 rfl e2
    show heLess ρ σ H a ≠ none
    rw [heLess_not na]
    rcases h with h | h
    · exact R.dom a (R.b0 a h)
    · rw [h]
      exact R.dom d hd
  ib := fun i a h => .inl (R.ib i a h)
  dom := R.dom
  doh := fun a h => by
    have h : heLess ρ σ H a ≠ none := h
    cases e : heLess ρ σ H a with
    | none => exact absurd e h
    | some o => rw [(heLess_some e).1]; simp
  keep := fun a o h _ => (heLess_some h).1
  slot := fun i s e => by
    have q := R.slot i s e
    cases s with
    | non => trivial
    | val d => exact q
    | own m =>
      obtain ⟨b, q1, q2, q3, q4⟩ := q
      exact ⟨b, q1, q2, heLess_own ⟨i, m, e, q1⟩, q4⟩
    | io m => exact q
  dist := R.dist
/-- back, behind it: d is as it was -/
theorem Rel.without (R0 : Rel F O ρ σ H) {d : Addr} {o : HO} (hd : H d = some o) (ap : Apart ρ σ d) (hb : ¬ F.B d) {O' : Av} {ρ' : En} {σ' : St} {H' : Hp} (R : Rel (F.within ρ σ H d) O' ρ' σ' H') : Rel F O' ρ' σ' H' ∧ O' d ∧ H' d = some o := by
  have nd : ¬ ownAt ρ σ d := fun ⟨i, m, e1, e2⟩ => ap i _ e1 rfl e2
  refine ⟨⟨R.len, fun a h => R.b0 a (.inl h), R0.bh, R0.ib, R.dom, fun a h => ?_, fun a o h n => ?_, fun i s e => ?_, R.dist⟩, R.b0 d (.inr rfl), R.keep d o ?_ fun i q => hb (R0.ib i d q)⟩
  · have na : ¬ ownAt ρ σ a := fun ow => h (own_he R0 ow)
    refine R.doh a ?_
    show heLess ρ σ H a ≠ none
    rw [heLess_not na]
    exact R0.doh a h
  · have na : ¬ ownAt ρ σ a := fun ow => by
      rw [own_he R0 ow] at h
      cases h
    refine R.keep a o ?_ n
    show heLess ρ σ H a = some o
    rw [heLess_not na]
    exact R0.keep a o h n
  · have q := R.slot i s e
    cases s with
    | non => trivial
    | val d => exact q
    | own m =>
      obtain ⟨b, q1, q2, q3, q4⟩ := q
      refine ⟨b, q1, q2, ?_, q4⟩
      have q3 : heLess ρ σ H b = none := q3
      by_cases ow : ownAt ρ σ b
      · exact own_he R0 ow
      · rw [heLess_not ow] at q3
        exact R0.freshE q3
    | io m => exact q
  · show heLess ρ σ H d = some o
    rw [heLess_not nd]
    exact hd
/-- a guarded thing that no slot holds is changed -/
theorem Rel.updG (R : Rel F O ρ σ H) {a : Addr} {o' : HO} (ho : O a) (ap : Apart ρ σ a) (he : F.He a = none) : Rel F O ρ σ (upd H a o') := by
  have st : Step O H O (upd H a o') := mut_step ho
  refine ⟨R.len, R.b0, R.bh, R.ib, fun b q => st.dom b (R.dom b q), fun b q => st.dom b (R.doh b q), fun b o q n => ?_, fun i s e => ?_, R.dist⟩
  · rw [upd_ne fun z => by rw [z, he] at q; cases q]
    exact R.keep b o q n
  · have q := R.slot i s e
    cases s with
    | non => trivial
    | val d =>
      obtain ⟨v, q1, q2⟩ := q
      exact ⟨v, q1, Rep.step st d v q2⟩
    | own m =>
      obtain ⟨b, q1, q2, q3, q4⟩ := q
      exact ⟨b, q1, q2, q3, q4.step st (upd_ne fun z => ap i _ e rfl (z ▸ q1))⟩
    | io m =>
      obtain ⟨b, q1, q2, q4⟩ := q
      exact ⟨b, q1, q2, q4.step st (upd_ne fun z => ap i _ e rfl (z ▸ q1))⟩
end
end PM

namespace PM
open PySem L2

def wipeE (ρ : En) : List Nat → En
  | [] => ρ
  | v :: vs => (wipeE ρ vs).set v .non
theorem wipeE_get {ρ : En} {vs : List Nat} {j : Nat} {s : Sl} (h : (wipeE ρ vs)[j]? = some s) : s = .non ∨ (j ∉ vs ∧ ρ[j]? = some s) := by
  induction vs with
  | nil => exact .inr ⟨by simp, h⟩
  | cons v vs ih =>
    unfold wipeE at h
    rcases get_set h with ⟨e1, e2⟩ | ⟨e1, e2⟩
    · exact .inl e2
    · rcases ih e2 with q | ⟨q1, q2⟩
      · exact .inl q
      · exact .inr ⟨by simp [Ne.symm e1, q1], q2⟩
theorem wipeE_len {ρ : En} {vs : List Nat} : (wipeE ρ vs).length = ρ.length := by
  induction vs with
  | nil => rfl
  | cons v vs ih => simp [wipeE, ih]
theorem wipe_off {σ : St} {vs : List Nat} {j : Nat} (h : j ∉ vs) : (wipe σ vs)[j]? = σ[j]? := by rw [wipe_get, if_neg h]
theorem wipe_twice {σ : St} {vs : List Nat} : wipe (wipe σ vs) vs = wipe σ vs := by
  apply List.ext_getElem?
  intro j
  rw [wipe_get, wipe_get]
  by_cases h : j ∈ vs
  · rw [if_pos h, if_pos h]
    cases σ[j]? <;> rfl
  · rw [if_neg h, if_neg h]
section
variable {F : Fr} {O : Av} {ρ : En} {σ τ : St} {H : Hp} {vs : List Nat}
/-- the slots of a block's names are emptied; of the others nothing else than before is asked -/
theorem Rel.slots (R : Rel F O ρ τ H) (hl : ρ.length = σ.length) (hs : ∀ j, j ∉ vs → σ[j]? = τ[j]?) : Rel F O (wipeE ρ vs) σ H := by
  refine ⟨wipeE_len.trans hl, R.b0, R.bh, R.ib, R.dom, R.doh, R.keep, fun j s e => ?_, fun i j s t e1 e2 m1 m2 q => ?_⟩
  · rcases wipeE_get e with rfl | ⟨n, e⟩
    · trivial
    · rw [hs j n]
      exact R.slot j s e
  · rcases wipeE_get e1 with rfl | ⟨n1, e1⟩
    · cases m1
    · rcases wipeE_get e2 with rfl | ⟨n2, e2⟩
      · cases m2
      · rw [hs i n1, hs j n2] at q
        exact R.dist i j s t e1 e2 m1 m2 q
theorem Rel.wipe (R : Rel F O ρ σ H) : Rel F O (wipeE ρ vs) (wipe σ vs) H := R.slots (by rw [wipe_length]; exact R.len) fun j h => wipe_off h
theorem Apart.slots {a : Addr} (R : Apart ρ τ a) (hs : ∀ j, j ∉ vs → σ[j]? = τ[j]?) : Apart (wipeE ρ vs) σ a := fun j s e m => by
  rcases wipeE_get e with rfl | ⟨n, e⟩
  · cases m
  · rw [hs j n]
    exact R j s e m
/-- what lies guarded from outside the frame, and was there at its beginning, no slot may change -/
theorem Rel.apartB (R : Rel F O ρ σ H) {a : Addr} (h : F.He a ≠ none) (n : ∀ i, ¬ F.Io i a) : Apart ρ σ a := fun i s e m q => by
  have z := R.slot i s e
  cases s with
  | non => cases m
  | val d => cases m
  | own m0 =>
    obtain ⟨b, e1, e2, e3, e4⟩ := z
    rw [q] at e1
    cases e1
    exact h e3
  | io m0 =>
    obtain ⟨b, e1, e2, e4⟩ := z
    rw [q] at e1
    cases e1
    exact n i e2
end

/-! ### [e for x in it if t] -/
def mLcLoop (g : MG) (vs : List Nat) (mt : MT) (me : ME) : List D → List D → En → Rs (List D)
  | [], acc, ρ => .ok acc ρ
  | d :: ds, acc, ρ => match g d ρ with
    | none => .stuck
    | some ρ1 => match mt ρ1 with
      | .ok b ρ2 => if b = true then (match me ρ2 with
          | .ok y ρ3 => if acc.length < sizeLine then mLcLoop g vs mt me ds (acc ++ [y.1]) (wipeE ρ3 vs) else .stuck
          | _ => .stuck) else mLcLoop g vs mt me ds acc (wipeE ρ2 vs)
      | _ => .stuck
def mLc (mi : MI) (vs : List Nat) (g : MG) (mt : MT) (me : ME) : ME := fun ρ => (mi ρ).bind fun ds ρ1 => (mLcLoop g vs mt me ds [] (wipeE ρ1 vs)).bind fun acc ρ2 => .ok (.lst acc, true) (wipeE ρ2 vs)
def mYes : MT := fun ρ => .ok true ρ
theorem simI_bind1 {wi : TI} {mi : MI} {W : WX} {F : Fr} {O : Av} {ρ : En} {σ : St} {H : Hp} (si : ∀ k : It → Hp → Prop, Hold F W O σ H (RIt F.w) k (mi ρ) → wi σ H k) {α β : Type} {RA : En → Av → Hp → β → α → Prop} {Q : β → Hp → Prop} {f : List D → En → Rs α}
    (h : Hold F W O σ H RA Q ((mi ρ).bind f)) {k : It → Hp → Prop}
    (hk : ∀ (ds : List D) (J : It) (ρ1 : En) (O1 : Av) (H1 : Hp), Step O H O1 H1 → Rel F O1 ρ1 σ H1 → ItOk F.w ds O1 H1 J → Hold F W O σ H RA Q (f ds ρ1) → k J H1) : wi σ H k := by
  refine si k ?_
  cases e : mi ρ with
  | ok x ρ1 =>
    rw [e] at h
    exact fun O1 H1 v st R1 rv => hk x v ρ1 O1 H1 st R1 rv h
  | exc x ρ1 =>
    rw [e] at h
    exact fun O1 H1 cls d st R1 xa => h O1 H1 cls d st R1 xa
  | stuck =>
    rw [e] at h
    exact h
/-- what is walked is known at this frame alone -/
theorem sim_lc1 {w : Wd} {W : WX} {wi : TI} {mi : MI} {gg : TG} {g : MG} {js vs : List Nat} {tt : TT} {mt : MT} {te : TE} {me : ME} {F : Fr} {O : Av} {ρ : En} {σ : St} {H : Hp} {Q : VK} (si : ∀ k : It → Hp → Prop, Hold F W O σ H (RIt F.w) k (mi ρ) → wi σ H k) (sg : SimG w gg g js) (stt : SimT w W0 tt mt) (se : Sim w W0 te me) (hj : ∀ j ∈ js, j ∈ vs)
    (hw : F.w = w) (R : Rel F O ρ σ H) (hh : Hold F W O σ H (RV F σ H) Q (mLc mi vs g mt me ρ)) : tLc wi gg tt te vs σ H Q := by
  refine simI_bind1 si hh fun ds J ρ1 O1 H1 st1 R1 io h1 => ?_
  intro Dl hD
  obtain ⟨G, Y, wk, hG, hY⟩ := io
  have hDe : F.He Dl = none := R1.freshE hD
  have hDb : ¬ F.B Dl := fun q => R1.bh Dl q hDe
  have hDi : ∀ i, ¬ F.Io i Dl := fun i q => hDb (R1.ib i Dl q)
  have g0 : Grow H1 (upd H1 Dl (.lst [])) := Grow.new hD
  have R2 : Rel F (ins O1 Dl) ρ1 σ (upd H1 Dl (.lst [])) := R1.guard g0 hD (by rw [upd_same]; simp)
  refine lc_it wk (fun i H' => ∃ (O' : Av) (ρ' : En) (acc : List D) (va : List V), Step O1 H1 O' H' ∧ Rel F O' ρ' (wipe σ vs) H' ∧ O' Dl ∧ Apart ρ' (wipe σ vs) Dl ∧ H' Dl = some (.lst va) ∧ RepL F.w O' H' acc va ∧
      Hold F W O σ H (RV F σ H) Q ((mLcLoop g vs mt me (ds.drop i) acc ρ').bind fun acc ρ2 => .ok (.lst acc, true) (wipeE ρ2 vs))) ?_ ?_ ?_ ?_
  · exact ⟨ins O1 Dl, wipeE ρ1 vs, [], [], ins_step g0 hD, R2.wipe, .inr rfl, (R1.apart hD).slots fun j h => wipe_off h, upd_same, by simp only [RepL], h1⟩
  · rintro i H' _ ⟨O', ρ', acc, va, st, _⟩
    exact hG O' H' st
  · rintro i x H' H'' hi ⟨O', ρ', acc, va, st, R', od, ap, hd, ra, hl⟩ y
    obtain ⟨gr, d, ed, rd⟩ := hY i O' H' x H'' hi st R'.dom y
    rw [ed] at hl
    have R3 : Rel F O' ρ' (wipe σ vs) H'' := R'.grow gr
    have hd3 : H'' Dl = some (.lst va) := gr _ _ hd
    have ra3 : RepL F.w O' H'' acc va := RepL.step gr.step _ _ ra
    have st3 : Step O1 H1 O' H'' := st.trans gr.step
    have Rw : Rel (F.within ρ' (wipe σ vs) H'' Dl) O' ρ' (wipe σ vs) H'' := R3.within od ap
    have nw : ¬ ownAt ρ' (wipe σ vs) Dl := fun ⟨i, m, e1, e2⟩ => ap i _ e1 rfl e2
    have heD : (F.within ρ' (wipe σ vs) H'' Dl).He Dl ≠ none := by
      show heLess ρ' (wipe σ vs) H'' Dl ≠ none
      rw [heLess_not nw, hd3]
      simp
    unfold mLcLoop at hl
    cases q : g d ρ' with
    | none => simp only [q] at hl; exact hl.elim
    | some ρa =>
      simp only [q] at hl
      refine sg (F.within ρ' (wipe σ vs) H'' Dl) O' ρ' ρa (wipe σ vs) H'' x d _ hw Rw (hw ▸ rd) q fun σa Ra out => ?_
      have ew : wipe σa vs = wipe σ vs := (out vs hj).trans wipe_twice
      have hs : ∀ j, j ∉ vs → (wipe σ vs)[j]? = σa[j]? := fun j h => by rw [← ew, wipe_off h]
      have hlen : ∀ {ρx : En} {Ox : Av} {Hx : Hp}, Rel F Ox ρx σa Hx → ρx.length = (wipe σ vs).length := fun Rx => by rw [Rx.len, ← ew, wipe_length]
      refine ⟨ew, stt (F.within ρ' (wipe σ vs) H'' Dl) O' ρa σa H'' _ hw Ra ?_⟩
      cases q2 : mt ρa with
      | stuck => simp only [q2] at hl; exact hl
      | exc x ρb => simp only [q2] at hl; exact hl.elim
      | ok b ρb =>
        simp only [q2] at hl
        intro Ob Hb b' stb Rb eb
        have eb : b' = b := eb
        subst eb
        cases b' with
        | false =>
          refine iteF ?_
          obtain ⟨Rf, ob, hb⟩ := R3.without hd3 ap hDb Rb
          refine ⟨Ob, wipeE ρb vs, acc, va, st3.trans stb, Rf.slots (hlen Rf) hs, ob, (Rb.apartB heD hDi).slots hs, hb, RepL.step stb _ _ ra3, ?_⟩
          exact hl
        | true =>
          refine iteT (se (F.within ρ' (wipe σ vs) H'' Dl) Ob ρb σa Hb _ hw Rb ?_)
          cases q3 : me ρb with
          | stuck => simp only [q3] at hl; exact hl
          | exc x ρc => simp only [q3] at hl; exact hl.elim
          | ok yv ρc =>
            simp only [q3] at hl
            intro Oc Hc v stc Rc rv
            obtain ⟨O5, s5, R5, r5, _⟩ := VlAt.release stc Rc Rb.doh rv
            obtain ⟨Rf, ob, hb⟩ := R3.without hd3 ap hDb R5
            have ap5 : Apart ρc σa Dl := R5.apartB heD hDi
            rw [if_pos trivial] at hl
            split at hl
            · rename_i hz
              have st5 : Step O' H'' O5 Hc := stb.trans s5
              have ra5 : RepL F.w O5 Hc acc va := RepL.step st5 _ _ ra3
              have R6 : Rel F O5 ρc σa (upd Hc Dl (.lst (va ++ [v]))) := Rf.updG ob ap5 hDe
              have mst : Step O5 Hc O5 (upd Hc Dl (.lst (va ++ [v]))) := mut_step ob
              refine ⟨va, hb, by rw [ra5.length]; exact hz, O5, wipeE ρc vs, acc ++ [yv.1], va ++ [v], (st3.trans st5).trans mst, R6.slots (hlen R6) hs, ob, ap5.slots hs, upd_same, ?_, hl⟩
              refine RepL.step mst _ _ (ra5.append ?_)
              simp only [RepL]
              exact ⟨v, [], rfl, r5, rfl⟩
            · exact hl.elim
  · rintro H' ⟨O', ρ', acc, va, st, R', od, ap, hd, ra, hl⟩
    rw [List.drop_length] at hl
    have hl : Hold F W O σ H (RV F σ H) Q (.ok (.lst acc, true) (wipeE ρ' vs)) := hl
    have back : ∀ j, j ∉ vs → σ[j]? = (wipe σ vs)[j]? := fun j h => (wipe_off h).symm
    exact hl O' H' (.ref Dl) (st1.trans st) (R'.slots (by rw [R'.len, wipe_length]) back) ⟨Dl, .lst acc, rfl, st1.none_back hD, od, rfl, ⟨va, hd, ra⟩, ap.slots back⟩
theorem sim_lc {w : Wd} {W : WX} {wi : TI} {mi : MI} {gg : TG} {g : MG} {js vs : List Nat} {tt : TT} {mt : MT} {te : TE} {me : ME} (si : SimI w W wi mi) (sg : SimG w gg g js) (stt : SimT w W0 tt mt) (se : Sim w W0 te me) (hj : ∀ j ∈ js, j ∈ vs) :
    Sim w W (tLc wi gg tt te vs) (mLc mi vs g mt me) := fun F O ρ σ H Q hw R hh => sim_lc1 (fun k hk => si F O ρ σ H k hw R hk) sg stt se hj hw R hh
section
variable {w : Wd} {W : WX} {X : Cx} {pos spos py : Pos} {elt tg iter : Expr} {ifs : List Expr} {scope : Scope} {own : List (Str × Nat)} {mi : MI} {g : MG} {js : List Nat} {mt : MT} {me : ME}
def PMTs (X : Cx) (w : Wd) (W : WX) (ifs : List Expr) (m : MT) : Prop := ∃ t, PTs X ifs t ∧ SimT w W t m
theorem pmts_nil : PMTs X w W [] mYes := ⟨_, pts_nil, fun F O ρ σ H Q hw R hh => hh O H true (Step.refl _ _) R rfl⟩
theorem pmts_one {c : Expr} {m : MT} (h : PMT X w W c m) : PMTs X w W [c] m := by
  obtain ⟨t, p, s⟩ := h
  exact ⟨t, pts_one p, s⟩
/-! one reading for a judgement, whatever it was found by -/
def teOf (w : Wd) (W : WX) (m : ME) : TE := fun σ H Q => ∃ (F : Fr) (O : Av) (ρ : En), F.w = w ∧ Rel F O ρ σ H ∧ Hold F W O σ H (RV F σ H) Q (m ρ)
def ttOf (w : Wd) (W : WX) (m : MT) : TT := fun σ H Q => ∃ (F : Fr) (O : Av) (ρ : En), F.w = w ∧ Rel F O ρ σ H ∧ Hold F W O σ H RBl Q (m ρ)
def tgOf (w : Wd) (g : MG) (js : List Nat) : TG := fun v σ H Q => ∃ (F : Fr) (O : Av) (ρ ρ1 : En) (d : D), F.w = w ∧ Rel F O ρ σ H ∧ Rep F.w O H d v ∧ g d ρ = some ρ1 ∧ ∀ σ1, Rel F O ρ1 σ1 H → Out js σ σ1 → Q σ1 H
theorem sim_of {m : ME} : Sim w W (teOf w W m) m := fun F O ρ σ H Q hw R hh => ⟨F, O, ρ, hw, R, hh⟩
theorem simt_of {m : MT} : SimT w W (ttOf w W m) m := fun F O ρ σ H Q hw R hh => ⟨F, O, ρ, hw, R, hh⟩
theorem simg_of : SimG w (tgOf w g js) g js := fun F O ρ ρ1 σ H v d Q hw R h e k => ⟨F, O, ρ, ρ1, d, hw, R, h, e, k⟩
theorem PM.pe {e : Expr} {m : ME} (h : PM X w W e m) : PE X e (teOf w W m) := by
  obtain ⟨te, p, s⟩ := h
  exact ⟨fun pins s0 σ H Q I ⟨F, O, ρ, hw, R, hh⟩ => p.run pins s0 σ H Q I (s F O ρ σ H Q hw R hh)⟩
theorem PMTs.pe {e : List Expr} {m : MT} (h : PMTs X w W e m) : PTs X e (ttOf w W m) := by
  obtain ⟨te, p, s⟩ := h
  exact ⟨fun pins s0 σ H Q I ⟨F, O, ρ, hw, R, hh⟩ => p.run pins s0 σ H Q I (s F O ρ σ H Q hw R hh)⟩
theorem PMG.pe {e : Expr} (h : PMG X w e g js) : PG X e (tgOf w g js) := by
  obtain ⟨te, p, s⟩ := h
  exact ⟨fun pins s0 σ H v u Q I r ⟨F, O, ρ, ρ1, d, hw, R, hd, e, k⟩ => p.run pins s0 σ H v u Q I r (s F O ρ ρ1 σ H v d Q hw R hd e k)⟩
theorem pm_lc (hc : X.calm = true) (hN : X.N.Nodup) (hi : PMI X w W tg iter mi) (ok : BlkOk X.N X.env.scope scope own) (hj : ∀ j ∈ js, j ∈ own.map (·.2))
    (hg : ∀ (s : Shared) (H : Hp) (C : Addr) (cl : List (Str × Addr)) (fp : List Addr), PMG (X.blk s H scope (compEnvC scope cl C X.env) fp) w tg g js) (ht : ∀ (s : Shared) (H : Hp) (C : Addr) (cl : List (Str × Addr)) (fp : List Addr), PMTs (X.blk s H scope (compEnvC scope cl C X.env) fp) w W0 ifs mt)
    (he : ∀ (s : Shared) (H : Hp) (C : Addr) (cl : List (Str × Addr)) (fp : List Addr), PM (X.blk s H scope (compEnvC scope cl C X.env) fp) w W0 elt me) (hs : ∀ x, foldedSetIterable iter X.env x = pure x := by intro _; rfl) :
    PM X w W (.ListComp elt [⟨tg, iter, ifs, 0⟩] scope pos) (mLc mi (own.map (·.2)) g mt me) := by
  obtain ⟨wi, pi, si⟩ := hi
  exact ⟨_, pe_lc hc hN pi ok (fun s H C cl fp => (hg s H C cl fp).pe) (fun s H C cl fp => (ht s H C cl fp).pe) (fun s H C cl fp => (he s H C cl fp).pe) hs, sim_lc si simg_of simt_of sim_of hj⟩
theorem sims_asg {te : TE} {m : ME} {i : Nat} (se : Sim w W te m) : SimS w W (tAsg te (gName i)) (mAsg i m) := fun F O ρ σ H E hw R hh => by
  refine se.bindS hw R hh fun x v ρ1 O1 H1 st1 R1 rv h1 => ?_
  obtain ⟨O2, s2, R2, r2, s3⟩ := VlAt.release st1 R1 R.doh rv
  show E.nx _ _
  cases q : setV i x.1 ρ1 with
  | none => rw [q] at h1; exact h1.elim
  | some ρ2 =>
    rw [q] at h1
    exact h1 O2 _ H1 s3 (setV_rel R2 r2 q)
theorem sims_asgO {te : TE} {m : ME} {i : Nat} (se : Sim w W te m) : SimS w W (tAsg te (gName i)) (mAsgO i m) := fun F O ρ σ H E hw R hh => by
  refine se.bindS hw R hh fun x v ρ1 O1 H1 st1 R1 rv h1 => ?_
  show E.nx _ _
  cases q : setO i x ρ1 with
  | none => rw [q] at h1; exact h1.elim
  | some ρ2 =>
    rw [q] at h1
    exact h1 O1 _ H1 (Step.refl _ _) (setO_rel R R1 rv q)
theorem ps_lc {i : Nat} {y : Str} (hc : X.calm = true) (hN : X.N.Nodup) (hy : X.N[i]? = some y) (hyl : X.env.scope.names.lookup y = some .local) (hsw : swapsWith (.ListComp elt [⟨tg, iter, ifs, 0⟩] scope pos) (some (.Name y py)) spos.line X.env = pure true)
    (hi : PMI X w W tg iter mi) (ok : BlkOk X.N X.env.scope scope own) (hj : ∀ j ∈ js, j ∈ own.map (·.2))
    (hg : ∀ (s : Shared) (H : Hp) (C : Addr) (cl : List (Str × Addr)) (fp : List Addr), PMG (X.blk s H scope (compEnvC scope cl C X.env) fp) w tg g js) (ht : ∀ (s : Shared) (H : Hp) (C : Addr) (cl : List (Str × Addr)) (fp : List Addr), PMTs (X.blk s H scope (compEnvC scope cl C X.env) fp) w W0 ifs mt)
    (he : ∀ (s : Shared) (H : Hp) (C : Addr) (cl : List (Str × Addr)) (fp : List Addr), PM (X.blk s H scope (compEnvC scope cl C X.env) fp) w W0 elt me) (hs : ∀ x, foldedSetIterable iter X.env x = pure x := by intro _; rfl) :
    ∃ te, PS X (.Assign [.Name y py] (.ListComp elt [⟨tg, iter, ifs, 0⟩] scope pos) spos) (tAsg te (gName i)) ∧ Sim w W te (mLc mi (own.map (·.2)) g mt me) := by
  obtain ⟨wi, pi, si⟩ := hi
  exact ⟨_, ps_setLc hc hN hy hyl hsw pi ok (fun s H C cl fp => (hg s H C cl fp).pe) (fun s H C cl fp => (ht s H C cl fp).pe) (fun s H C cl fp => (he s H C cl fp).pe) hs, sim_lc si simg_of simt_of sim_of hj⟩
theorem pms_lc {i : Nat} {y : Str} {m : ME} (h : ∃ te, PS X (.Assign [.Name y py] (.ListComp elt [⟨tg, iter, ifs, 0⟩] scope pos) spos) (tAsg te (gName i)) ∧ Sim w W te m) : PMS X w W (.Assign [.Name y py] (.ListComp elt [⟨tg, iter, ifs, 0⟩] scope pos) spos) (mAsg i m) := by
  obtain ⟨te, p, s⟩ := h
  exact ⟨_, p, sims_asg s⟩
theorem pms_lcO {i : Nat} {y : Str} {m : ME} (h : ∃ te, PS X (.Assign [.Name y py] (.ListComp elt [⟨tg, iter, ifs, 0⟩] scope pos) spos) (tAsg te (gName i)) ∧ Sim w W te m) : PMS X w W (.Assign [.Name y py] (.ListComp elt [⟨tg, iter, ifs, 0⟩] scope pos) spos) (mAsgO i m) := by
  obtain ⟨te, p, s⟩ := h
  exact ⟨_, p, sims_asgO s⟩
end
end PM

namespace PM
open PySem L2

/-! ### (*x, ..) -/
def itSeq : D → Option (List D)
  | .lst ds => some ds
  | .tup ds => some ds
  | _ => none
def mStar (me : ME) (mr : MA) : MA := fun ρ => (me ρ).bind fun x ρ1 => match itSeq x.1 with
  | none => .stuck
  | some ds => (mr ρ1).bind fun ys ρ2 => .ok (ds ++ ys) ρ2
section
variable {w : Wd} {W : WX} {X : Cx} {pos p p2 : Pos} {e : Expr} {es : List Expr} {m : ME} {mr : MA}
theorem seq_rep {O : Av} {H : Hp} {d : D} {ds : List D} {v : V} (h : Rep w O H d v) (e : itSeq d = some ds) : ∃ a vs, v = .ref a ∧ (SqT w.K H a vs ∨ SqL w.K H a vs) ∧ RepL w O H ds vs := by
  unfold itSeq at e
  split at e
  · cases e
    simp only [Rep] at h
    obtain ⟨a, vs, e1, h1, h2⟩ := h
    exact ⟨a, vs, e1, .inr (sl_of_rep h1), h2⟩
  · cases e
    simp only [Rep] at h
    obtain ⟨a, vs, e1, h1, h2⟩ := h
    exact ⟨a, vs, e1, .inl (sq_of_rep h1), h2⟩
  · cases e
theorem pma_star (hK : w.K = X.K) (he : PM X w W e m) (hr : PMA X w W es mr) (hs : starEach (.Starred e p :: es) X.env = (true, eval e X.env) :: starEach es X.env := by rfl) : PMA X w W (.Starred e p :: es) (mStar m mr) := by
  obtain ⟨te, pe, se⟩ := he
  obtain ⟨tr, pr, sr⟩ := hr
  refine ⟨_, StX.pa_star pe pr hs, fun F O ρ σ H Q hw R hh => ?_⟩
  subst hw
  refine se.bind rfl R hh fun x v ρ1 O1 H1 st1 R1 rx h1 => ?_
  cases q : itSeq x.1 with
  | none => rw [q] at h1; exact h1.elim
  | some ds =>
    rw [q] at h1
    obtain ⟨a, vs, rfl, h2, h3⟩ := seq_rep rx q
    refine ⟨a, vs, rfl, hK ▸ h2, ?_⟩
    refine sr.bind rfl R1 (h1.later st1 (RB := VlsAt F.w) fun _ _ _ _ _ _ q => q) fun ys us ρ2 O2 H2 st2 R2 rs h4 => ?_
    exact h4 O2 H2 (vs ++ us) st2 R2 ((RepL.step st2 _ _ h3).append rs)

/-! ### f-strings -/
def fmtD : D → Option Vl
  | .str y => if y.length ≤ sizeLine then some (dS y) else none
  | .int i => if i.natAbs.log2 < 1920 then some (dS (toString i)) else none
  | _ => none
theorem pm_fmt (he : PM X w W e m) : PM X w W (.FormattedValue e (-1) none pos) (mOp1 fmtD m) := by
  obtain ⟨te, pe, se⟩ := he
  refine ⟨_, pe_fmt pe, fun F O ρ σ H Q hw R hh => ?_⟩
  subst hw
  refine se.bind rfl R hh fun x v ρ1 O1 H1 st1 R1 rx h1 => ?_
  cases q : fmtD x.1 with
  | none => rw [q] at h1; exact h1.elim
  | some z =>
    rw [q] at h1
    have k := Hold.go h1 st1 R1
    unfold fmtD at q
    split at q
    · rename_i y ey
      rw [ey] at rx
      split at q
      · cases q
        exact .inl ⟨y, rep_str rx, by assumption, k.str⟩
      · cases q
    · rename_i i ey
      rw [ey] at rx
      split at q
      · cases q
        exact .inr ⟨i, rep_int rx, by assumption, k.str⟩
      · cases q
    · cases q
def mJs : List ME → Str → En → Rs Vl
  | [], acc, ρ => .ok (dS acc) ρ
  | m :: ms, acc, ρ => (m ρ).bind fun x ρ1 => match x.1 with
    | .str y => if (acc ++ y).length ≤ sizeLine then mJs ms (acc ++ y) ρ1 else .stuck
    | _ => .stuck
def PMJ (X : Cx) (w : Wd) (W : WX) (es : List Expr) (ms : List ME) : Prop := ∃ ts, PJ X es ts ∧ ∀ (acc : Str) (F : Fr) (O : Av) (ρ : En) (σ : St) (H : Hp) (Q : VK), F.w = w → Rel F O ρ σ H → Hold F W O σ H (RV F σ H) Q (mJs ms acc ρ) → tJs ts acc σ H fun out H1 => Q (.str out) H1
theorem pmj_nil : PMJ X w W [] [] := ⟨_, .nil, fun acc F O ρ σ H Q hw R hh => Go.str (hh.go (Step.refl _ _) R)⟩
theorem pmj_cons {ms : List ME} (he : PM X w W e m) (hr : PMJ X w W es ms) : PMJ X w W (e :: es) (m :: ms) := by
  obtain ⟨te, pe, se⟩ := he
  obtain ⟨ts, pr, sr⟩ := hr
  refine ⟨_, .cons pe pr, fun acc F O ρ σ H Q hw R hh => ?_⟩
  subst hw
  refine se.bind rfl R hh fun x v ρ1 O1 H1 st1 R1 rx h1 => ?_
  split at h1
  · rename_i y ey
    rw [ey] at rx
    split at h1
    · rename_i hz
      exact ⟨y, rep_str rx, hz, sr (acc ++ y) F O1 ρ1 σ H1 Q rfl R1 (h1.laterV st1)⟩
    · exact h1.elim
  · exact h1.elim
theorem pm_joined {v1 v2 : Expr} {rest : List Expr} {ms : List ME} (h : PMJ X w W (v1 :: v2 :: rest) ms) : PM X w W (.JoinedStr (v1 :: v2 :: rest) pos) (mJs ms Str.empty) := by
  obtain ⟨ts, pj, sj⟩ := h
  exact ⟨_, pe_joined pj, fun F O ρ σ H Q hw R hh => sj Str.empty F O ρ σ H Q hw R hh⟩
theorem pm_joined1 (he : PM X w W e m) : PM X w W (.JoinedStr [e] pos) m := by
  obtain ⟨te, pe, se⟩ := he
  exact ⟨_, pe_joined1 pe, se⟩

/-! ### slices -/
abbrev MO := En → Rs (Option Int)
def RO : En → Av → Hp → Option Int → Option Int → Prop := fun _ _ _ b a => b = a
def SimO (w : Wd) (W : WX) (t : TO) (m : MO) : Prop := ∀ (F : Fr) (O : Av) (ρ : En) (σ : St) (H : Hp) (Q : Option Int → Hp → Prop), F.w = w → Rel F O ρ σ H → Hold F W O σ H RO Q (m ρ) → t σ H Q
def PMO (X : Cx) (w : Wd) (W : WX) (e : Option Expr) (m : MO) : Prop := ∃ t, PO X e t ∧ SimO w W t m
def mNo : MO := fun ρ => .ok none ρ
def asI : D → Option Int
  | .int i => some i
  | _ => none
def mPart (m : ME) : MO := fun ρ => (m ρ).bind fun x ρ1 => match asI x.1 with
  | some i => .ok (some i) ρ1
  | none => .stuck
theorem pmo_none : PMO X w W none mNo := ⟨_, po_none, fun F O ρ σ H Q hw R hh => hh O H none (Step.refl _ _) R rfl⟩
theorem pmo_some (he : PM X w W e m) : PMO X w W (some e) (mPart m) := by
  obtain ⟨te, pe, se⟩ := he
  refine ⟨_, po_some pe, fun F O ρ σ H Q hw R hh => ?_⟩
  subst hw
  refine se.bind rfl R hh fun x v ρ1 O1 H1 st1 R1 rx h1 => ?_
  cases q : asI x.1 with
  | none => rw [q] at h1; exact h1.elim
  | some i =>
    rw [q] at h1
    have ex : x.1 = .int i := by
      revert q
      cases x.1 <;> simp [asI]
    rw [ex] at rx
    exact ⟨i, rep_int rx, h1 O1 H1 (some i) st1 R1 rfl⟩
theorem SimO.bind {ta : TO} {ma : MO} (ha : SimO w W ta ma) {F : Fr} {O : Av} {ρ : En} {σ : St} {H : Hp} (hw : F.w = w) (R : Rel F O ρ σ H) {α β : Type} {RA : En → Av → Hp → β → α → Prop} {Q : β → Hp → Prop} {f : Option Int → En → Rs α}
    (h : Hold F W O σ H RA Q ((ma ρ).bind f)) {k : Option Int → Hp → Prop}
    (hk : ∀ (x : Option Int) (ρ1 : En) (O1 : Av) (H1 : Hp), Step O H O1 H1 → Rel F O1 ρ1 σ H1 → Hold F W O σ H RA Q (f x ρ1) → k x H1) : ta σ H k := by
  refine ha F O ρ σ H k hw R ?_
  cases e : ma ρ with
  | ok x ρ1 =>
    rw [e] at h
    intro O1 H1 v st R1 rv
    have rv : v = x := rv
    subst rv
    exact hk v ρ1 O1 H1 st R1 h
  | exc x ρ1 =>
    rw [e] at h
    exact fun O1 H1 cls d st R1 xa => h O1 H1 cls d st R1 xa
  | stuck =>
    rw [e] at h
    exact h
def cutD (xs : List D) (lo hi : Option Int) : List D := (xs.drop (HT.sIx xs.length 0 lo)).take (HT.sIx xs.length xs.length hi - HT.sIx xs.length 0 lo)
def slD (x : D) (lo hi : Option Int) : Option Vl := match x with
  | .lst ds => some (.lst (cutD ds lo hi), true)
  | .tup ds => some (.tup (cutD ds lo hi), false)
  | .str z => if z.length ≤ sizeLine then some (dS (cutS z lo hi)) else none
  | _ => none
def mSl (m : ME) (lo hi : MO) : ME := fun ρ => (m ρ).bind fun x ρ1 => (lo ρ1).bind fun a ρ2 => (hi ρ2).bind fun b ρ3 => lift (slD x.1 a b) ρ3
theorem RepL.drop {O : Av} {H : Hp} : ∀ {ds : List D} {vs : List V} (n : Nat), RepL w O H ds vs → RepL w O H (ds.drop n) (vs.drop n)
  | ds, vs, 0, h => h
  | [], vs, n + 1, h => by
    simp only [RepL] at h
    subst h
    simp [RepL]
  | d :: ds, vs, n + 1, h => by
    simp only [RepL] at h
    obtain ⟨v, vs', rfl, _, h2⟩ := h
    exact RepL.drop n h2
theorem RepL.take {O : Av} {H : Hp} : ∀ {ds : List D} {vs : List V} (n : Nat), RepL w O H ds vs → RepL w O H (ds.take n) (vs.take n)
  | ds, vs, 0, h => by simp [RepL]
  | [], vs, n + 1, h => by
    simp only [RepL] at h
    subst h
    simp [RepL]
  | d :: ds, vs, n + 1, h => by
    simp only [RepL] at h
    obtain ⟨v, vs', rfl, h1, h2⟩ := h
    simp only [List.take_succ_cons, RepL]
    exact ⟨v, _, rfl, h1, RepL.take n h2⟩
theorem RepL.cut {O : Av} {H : Hp} {ds : List D} {vs : List V} (h : RepL w O H ds vs) (lo hi : Option Int) : RepL w O H (cutD ds lo hi) (cutV vs lo hi) := by
  unfold cutD cutV
  rw [h.length]
  exact (h.drop _).take _
def rSlAll (K : PySem.W.Frag) : V → Option Int → Option Int → Hp → VK → Prop := fun x lo hi H Q => rSlL K x lo hi H Q ∨ rSlA K x lo hi H Q ∨ rSlS x lo hi H Q
theorem sl_all : SlR X (rSlAll X.K) := sl_list.or (sl_tupA.or sl_str)
theorem pm_slice (hK : w.K = X.K) {lo hi : Option Expr} {ml mh : MO} (he : PM X w W e m) (hl : PMO X w W lo ml) (hh : PMO X w W hi mh) : PM X w W (.Subscript e (.Slice lo hi none p2) pos) (mSl m ml mh) := by
  obtain ⟨te, pe, se⟩ := he
  obtain ⟨tl, pl, sl⟩ := hl
  obtain ⟨th, ph, sh⟩ := hh
  refine ⟨_, pe_slice sl_all pe pl ph, fun F O ρ σ H Q hw R hh => ?_⟩
  subst hw
  refine se.bind rfl R hh fun x v ρ1 O1 H1 st1 R1 rx h1 => ?_
  refine sl.bind rfl R1 (h1.laterV st1) fun a ρ2 O2 H2 st2 R2 h2 => ?_
  refine sh.bind rfl R2 (h2.laterV st2) fun b ρ3 O3 H3 st3 R3 h3 => ?_
  have rx := Rep.step (st2.trans st3) _ _ rx
  cases q : slD x.1 a b with
  | none => rw [q] at h3; exact h3.elim
  | some z =>
    rw [q] at h3
    have k := Hold.go h3 st3 R3
    unfold slD at q
    split at q
    · rename_i ds ey
      rw [ey] at rx
      cases q
      simp only [Rep] at rx
      obtain ⟨c, vs, rfl, g1, g2⟩ := rx
      exact .inl ⟨c, vs, rfl, hK ▸ sl_of_rep g1, fun p hp => k.newL (g2.cut a b) hp⟩
    · rename_i ds ey
      rw [ey] at rx
      cases q
      have rx' := rx
      simp only [Rep] at rx
      obtain ⟨c, vs, rfl, g1, g2⟩ := rx
      refine .inr (.inl ⟨c, vs, rfl, hK ▸ sq_of_rep g1, fun hz => ?_, fun _ p hp => k.newT R3.dom (g2.cut a b) hp⟩)
      have e0 : cutD ds a b = ds := by
        unfold cutD
        rw [← g2.length, hz.1, hz.2, g2.length]
        simp
      rw [e0] at k
      exact k.val rx'
    · rename_i z ey
      rw [ey] at rx
      split at q
      · rename_i hz
        cases q
        exact .inr (.inr ⟨z, rep_str rx, hz, k.str⟩)
      · cases q
    · cases q

/-! ### isinstance -/
inductive Ty where
  | b (n : String) | o (c : Nat)
def tyD : D → Ty
  | .non => .b "NoneType"
  | .bl _ => .b "bool"
  | .int _ => .b "int"
  | .str _ => .b "str"
  | .tup _ => .b "tuple"
  | .lst _ => .b "list"
  | .dct _ _ => .b "dict"
  | .obj c _ => .o c
  | .scr _ => .b "list"
  | .cls _ => .b "type"
  | .exn _ _ _ => .b "exception"
def Ty.v (w : Wd) : Ty → Value
  | .b n => .type n
  | .o c => .ref (w.cl c)
/-- what of the classes must be known -/
structure ClsOk (w : Wd) (n : Nat) : Prop where
  sc : ∀ c, c < n → SlX.SCls w.K (w.cl c)
  si : ∀ c, c < n → SlX.SIsi w.K (w.cl c)
def isT (n : Nat) (ans : Ty → Option Bool) (t : Ty) : Option Vl := match t with
  | .b t => (ans (.b t)).map dB
  | .o c => if c < n then (ans (.o c)).map dB else none
def isD (n : Nat) (ans : Ty → Option Bool) (d : D) : Option Vl := match d with
  | .cls _ => none
  | .exn _ _ _ => none
  | d => isT n ans (tyD d)
def rIsA (K : PySem.W.Frag) (u : Value) : List V → Hp → VK → Prop := fun xs H Q => rIsi K xs H Q ∨ SlX.rIsiSl K u xs H Q
theorem call_isA (u : Value) : CallR X (.builtin "isinstance") (rIsA X.K u) := call_isi.or (SlX.call_isiSl u)
theorem isi_core {O : Av} {H : Hp} {n : Nat} {ans : Ty → Option Bool} {u : Value} {cv : V} {Q : VK} {d : D} {v : V} {z : Vl} (cok : ClsOk w n) (hcv : ClsV cv u) (hans : ∀ t b, ans t = some b → PySem.W.kitOne w.K (t.v w) u = some b) (h : Rep w O H d v) (e : isD n ans d = some z) (k : Go w O H z Q) : rIsA w.K u [v, cv] H Q := by
  have base : ∀ {t : String} {b : Bool}, TyX w.K H v (.type t) → ans (.b t) = some b → Go w O H (dB b) Q → rIsA w.K u [v, cv] H Q := fun {t b} ty ea kk => .inl ⟨v, cv, _, u, b, rfl, hcv, ty, hans _ b ea, kk.bl⟩
  unfold isD at e
  have go : ∀ {t : String}, (ans (.b t)).map dB = some z → TyX w.K H v (.type t) → rIsA w.K u [v, cv] H Q := fun {t} e ty => by
    cases q : ans (.b t) with
    | none => rw [q] at e; cases e
    | some b =>
      rw [q] at e
      cases e
      exact base ty q k
  cases d with
  | non => simp only [Rep] at h; subst h; exact go e (.base .non)
  | bl x => simp only [Rep] at h; subst h; exact go e (.base (.bl x))
  | int x => simp only [Rep] at h; subst h; exact go e (.base (.int x))
  | str x => simp only [Rep] at h; subst h; exact go e (.base (.str x))
  | tup ds =>
    simp only [Rep] at h
    obtain ⟨a, vs, rfl, h1 | ⟨o, its, n, h1, h2, _⟩, _⟩ := h
    · exact go e (.base (.tup h1.2))
    · exact go e (.kTuple h1 h2)
  | lst ds =>
    simp only [Rep] at h
    obtain ⟨a, vs, rfl, h1, _⟩ := h
    exact go e (.base (.lst h1.2))
  | scr ds =>
    simp only [Rep] at h
    obtain ⟨a, vs, rfl, ⟨o, h1⟩ | ⟨o, its, n, h1, h2, _⟩, _⟩ := h
    · exact go e (.base (.frz h1.2))
    · exact go e (.kList h1 h2)
  | dct ks ds =>
    simp only [Rep] at h
    obtain ⟨a, kvs, rfl, h1 | ⟨o, h1⟩, _⟩ := h
    · exact go e (.base (.dK h1.2))
    · exact go e (.fDict h1.2)
  | cls c => cases e
  | exn c ns ds => cases e
  | obj c fs =>
    simp only [Rep] at h
    obtain ⟨a, dx, vs, rfl, hne, _, _, h1, h2, _⟩ := h
    have e : (if c < n then (ans (.o c)).map dB else none) = some z := e
    split at e
    · rename_i hc
      cases q : ans (.o c) with
      | none => rw [q] at e; cases e
      | some b =>
        rw [q] at e
        cases e
        refine .inr ⟨a, w.cl c, dx, _, cv, b, rfl, ?_, fun x hx => hcv.eq hx, .inr ⟨h1, h2⟩, cok.sc c hc, cok.si c hc, hans _ b q, k.bl⟩
        cases hcv with
        | ty n => rfl
        | own C => rfl
    · cases e
theorem sim_isi {n : Nat} {ans : Ty → Option Bool} {u : Value} {cv : V} {te : TE} (cok : ClsOk w n) (hcv : ClsV cv u) (hans : ∀ t b, ans t = some b → PySem.W.kitOne w.K (t.v w) u = some b) (se : Sim w W te m) : Sim w W (tCB (rIsA w.K u) (tCons te (tCons (tC cv) tNil))) (mOp1 (isD n ans) m) := fun F O ρ σ H Q hw R hh => by
  subst hw
  refine se.bind rfl R hh fun x v ρ1 O1 H1 st1 R1 rx h1 => ?_
  cases e : isD n ans x.1 with
  | none => rw [e] at h1; exact h1.elim
  | some z =>
    rw [e] at h1
    exact isi_core cok hcv hans rx e (h1.go st1 R1)
/-- isinstance(e, T), T a built-in class -/
theorem pm_isiB {n : Nat} {ans : Ty → Option Bool} {T : String} {x : Str} (hK : w.K = X.K) (cok : ClsOk w n) (hans : ∀ t b, ans t = some b → PySem.W.kitOne w.K (t.v w) (.type T) = some b) (hg : Gl X "isinstance") (hm : X.mg "isinstance" = none) (hgT : Gl X x) (hmT : X.mg x = none) (hvT : bootBuiltins x = some (.type T)) (he : PM X w W e m)
    (hnT : x ≠ "__name__" := by decide) (hdT : (x == ("__debug__" : Str)) = false := by decide) (hs : starEach [e, .Name x p2] X.env = (false, eval e X.env) :: starEach [.Name x p2] X.env := by rfl) (hs2 : starEach [.Name x p2] X.env = (false, eval (.Name x p2) X.env) :: starEach [] X.env := by rfl)
    (hpl : (backTo pos (starEach [.Name x p2] X.env)).any (·.1) = false := by rfl) : PM X w W (.Call (.Name "isinstance" p) [e, .Name x p2] [] pos) (mOp1 (isD n ans) m) := by
  obtain ⟨te, pe, se⟩ := he
  refine ⟨_, pe_callB (call_isA (.type T)) hg hm (by decide +kernel) (pa_cons pe (pa_cons (pe_bltn (v := .ty T) hgT hmT hvT rfl hnT hdT) pa_nil hs2) hs) (by decide) (by decide) hs hpl, ?_⟩
  rw [← hK]
  exact sim_isi cok (.ty T) hans se
/-- isinstance(e, C), C a class of one's own -/
theorem pm_isiC {n : Nat} {ans : Ty → Option Bool} {C : Addr} {x : Str} (hK : w.K = X.K) (cok : ClsOk w n) (hans : ∀ t b, ans t = some b → PySem.W.kitOne w.K (t.v w) (.ref C) = some b) (hg : Gl X "isinstance") (hm : X.mg "isinstance" = none) (hgT : Gl X x) (hmT : X.mg x = some (.ref C)) (he : PM X w W e m)
    (hdT : (x == ("__debug__" : Str)) = false := by decide) (hs : starEach [e, .Name x p2] X.env = (false, eval e X.env) :: starEach [.Name x p2] X.env := by rfl) (hs2 : starEach [.Name x p2] X.env = (false, eval (.Name x p2) X.env) :: starEach [] X.env := by rfl)
    (hpl : (backTo pos (starEach [.Name x p2] X.env)).any (·.1) = false := by rfl) : PM X w W (.Call (.Name "isinstance" p) [e, .Name x p2] [] pos) (mOp1 (isD n ans) m) := by
  obtain ⟨te, pe, se⟩ := he
  refine ⟨_, pe_callB (call_isA (.ref C)) hg hm (by decide +kernel) (pa_cons pe (pa_cons (pe_glob (v := .ref C) hgT hmT rfl hdT) pa_nil hs2) hs) (by decide) (by decide) hs hpl, ?_⟩
  rw [← hK]
  exact sim_isi cok (.own C) hans se

/-! ### -x; in; is -/
def negD : D → Option Vl
  | .int i => some (dI (-i))
  | _ => none
theorem pm_neg (he : PM X w W e m) : PM X w W (.UnaryOp .USub e pos) (mOp1 negD m) := pm_un un_neg (fun O H x z vx Q dm e hx k => by
  unfold negD at e
  split at e
  · cases e
    exact ⟨_, rep_int hx, k.int⟩
  · cases e) he
end
end PM

namespace PM
open PySem L2

/-! ### a def's call, told by values -/
def fnN (f : Fn) (xs : List D) : Option Vl := match f none xs with
  | .ret z none => some z
  | _ => none
theorem sp_of {w : Wd} {O : Av} {H : Hp} {f : Fn} {xs : List D} {vs : List V} {z : Vl} {Q : VK} {E : XK} {k : Nat} (dm : Dm O H) (hl : xs.length = k) (e : fnN f xs = some z) (rs : RepL w O H xs vs) (g : Go w O H z Q) : spOf w k f vs H Q E := by
  refine ⟨O, none, xs, dm, by rw [rs.length]; exact hl, rs, ?_⟩
  unfold fnN at e
  split at e
  · rename_i x hx
    cases e
    rw [hx]
    refine ⟨rfl, fun H' v sy rf => ?_⟩
    have gr : Grow H H' := fun a o q => sy.kept a o (fun q => by cases q.1) q
    obtain ⟨d, b⟩ := z
    cases b with
    | false => exact g v H' gr rf.1
    | true =>
      obtain ⟨a, m, e1, e2, e3, e4, _⟩ := rf
      exact g v H' gr ⟨a, m, e1, e2, e3, e4⟩
  · cases e
def isObj (c : Nat) : D → Bool
  | .obj c' _ => c' == c
  | _ => false
theorem isObj_some {c : Nat} {d : D} (h : isObj c d = true) : ∃ fs, d = .obj c fs := by
  cases d <;> simp [isObj] at h
  subst h
  exact ⟨_, rfl⟩
theorem slt_of {w : Wd} {O : Av} {H : Hp} {c : Nat} {fs : List D} {v : V} (h : Rep w O H (.obj c fs) v) : ∃ a dx vs, v = .ref a ∧ SlX.Slt H a (w.cl c) dx (vs.map some) ∧ RepL w O H fs vs := by
  simp only [Rep] at h
  obtain ⟨a, dx, vs, rfl, hne, _, _, h1, h2, h3⟩ := h
  exact ⟨a, dx, vs, rfl, .inr ⟨h1, h2⟩, h3⟩
/-- a def that is a method: its place, how many arguments, how deep, what it is worth -/
def MthOk (P : Program) (wo : World) (K : PySem.W.Frag) (mg : Str → Option Value) (base : Heap) (w : Wd) (g : Addr) (n j : Nat) (f : Fn) : Prop := FnR P wo K mg base CX0 j g (spOf w n f)
theorem mth_of {P : Program} {wo : World} {K : PySem.W.Frag} {mg : Str → Option Value} {base : Heap} {w : Wd} {g : Addr} {j : Nat} {f : Fn} {fd : FuncData} {ps : List Str} (F : FnP false P wo K mg base j g fd ps (spOf w ps.length f)) (hb : Binds K fd ps []) : MthOk P wo K mg base w g ps.length j f := by
  have F : FnOk P wo K mg base CX0 j g fd ps (spOf w ps.length f) := F
  exact (F.raw hb .nil).imp fun vs H Q E h => by rw [List.append_nil]; exact h

/-! ### e.f, a slot -/
def fldD (ix : Nat → Option Nat) : D → Option Vl
  | .obj c fs => (ix c).bind fun i => (fs[i]?).map fun d => (d, false)
  | _ => none
def SlotsOk (w : Wd) (f : Str) (ix : Nat → Option Nat) : Prop := ∀ c i, ix c = some i → SlX.SCls w.K (w.cl c) ∧ ∃ p, SlX.Slot1 w.K (w.cl c) f p i
section
variable {w : Wd} {W : WX} {X : Cx} {pos pos' apos p : Pos} {e e' o : Expr} {es : List Expr} {m m' : ME} {mr : MA} {f : Str}
theorem pm_fld {ix : Nat → Option Nat} (hK : w.K = X.K) (hs : SlotsOk w f ix) (he : PM X w W e m) (hb : attributeBase e f X.env (eval e X.env) = eval e X.env := by rfl) : PM X w W (.Attribute e f pos) (mOp1 (fldD ix) m) := by
  obtain ⟨te, pe, se⟩ := he
  refine ⟨_, SlX.pe_sl pe hb, ?_⟩
  rw [← hK]
  refine sim_op1 (r := fun x H1 Q => ∃ a C dx p vs i v, x = .ref a ∧ SlX.Slt H1 a C dx vs ∧ SlX.SCls w.K C ∧ SlX.Slot1 w.K C f p i ∧ vs[i]? = some (some v) ∧ Q v H1) (fun O H x z vx Q dm ez hx k => ?_) se
  cases x with
  | obj c fs =>
    obtain ⟨a, dx, vs, rfl, hsl, hr⟩ := slt_of hx
    have ez : ((ix c).bind fun i => (fs[i]?).map fun d => ((d, false) : Vl)) = some z := ez
    cases q : ix c with
    | none => rw [q] at ez; cases ez
    | some i =>
      rw [q] at ez
      have ez : (fs[i]?).map (fun d => ((d, false) : Vl)) = some z := ez
      cases q2 : fs[i]? with
      | none => rw [q2] at ez; cases ez
      | some d =>
        rw [q2] at ez
        cases ez
        obtain ⟨v, e1, e2⟩ := hr.get q2
        obtain ⟨h1, p, h2⟩ := hs c i q
        exact ⟨a, w.cl c, dx, p, _, i, v, rfl, hsl, h1, h2, by rw [List.getElem?_map, e1]; rfl, k.val e2⟩
  | _ => cases ez

/-! ### e.f, a property; e.m(..) -/
def objN (c : Nat) (f : Fn) (xs : List D) : Option Vl := match xs with
  | x :: _ => if isObj c x = true then fnN f xs else none
  | [] => none
structure PropOk (w : Wd) (c : Nat) (f : Str) (g : Addr) : Prop where
  sc : SlX.SCls w.K (w.cl c)
  ex : ∃ p, PySem.W.findIn w.K (.ref (w.cl c)) f = some (some (.ref p)) ∧ PySem.W.specialIn w.K (.ref p) "__get__" = some (some (.builtin "property.__get__")) ∧ PySem.W.takesIn w.K (.ref p) = some true ∧ ∃ rest, PySem.W.recIn w.K p "property" = some (.ref g :: rest)
theorem pm_prop {c : Nat} {g : Addr} {n : Nat} {fn : Fn} (hK : w.K = X.K) (hp : PropOk w c f g) (F : MthOk X.prog X.w X.K X.mg X.base w g 1 n fn) (hr : Room (n + 1) X.A) (he : PM X w W e m) (hb : attributeBase e f X.env (eval e X.env) = eval e X.env := by rfl) :
    PM X w W (.Attribute e f pos) (mOp1 (fun x => objN c fn [x]) m) := by
  obtain ⟨te, pe, se⟩ := he
  obtain ⟨sc, p, h1, h2, h3, h4⟩ := hp
  rw [hK] at sc h1 h2 h3 h4
  refine ⟨_, SlX.pe_propSl (E := E0) pe sc h1 h2 h3 h4 F hr (fun _ _ _ _ z => z) hb, ?_⟩
  refine sim_op1 (r := fun x H1 Q => ∃ a dx vs, x = .ref a ∧ SlX.Slt H1 a (w.cl c) dx vs ∧ spOf w 1 fn [.ref a] H1 Q E0) (fun O H x z vx Q dm ez hx k => ?_) se
  unfold objN at ez
  simp only at ez
  split at ez
  · rename_i ho
    obtain ⟨fs, rfl⟩ := isObj_some ho
    obtain ⟨a, dx, vs, rfl, hsl, hrr⟩ := slt_of hx
    exact ⟨a, dx, _, rfl, hsl, sp_of dm rfl ez (by simp only [RepL]; exact ⟨.ref a, [], rfl, hx, rfl⟩) k⟩
  · cases ez
structure MethOk (w : Wd) (c : Nat) (f : Str) (g : Addr) : Prop where
  sc : SlX.SCls w.K (w.cl c)
  mt : Meth w.K (w.cl c) f g
def mMeth (c : Nat) (fn : Fn) (m : ME) (mr : MA) : ME := fun ρ => (m ρ).bind fun x ρ1 => if isObj c x.1 = true then (mr ρ1).bind fun xs ρ2 => lift (fnN fn (x.1 :: xs)) ρ2 else .stuck
theorem sim_meth {c k : Nat} {fn : Fn} {ta : TE} {t : TA} (sa : Sim w W ta m) (sr : SimA w W t mr) (hn : ∀ (ρ ρ1 : En) (xs : List D), mr ρ = .ok xs ρ1 → xs.length + 1 = k) : Sim w W (SlX.tMethSl (w.cl c) (spOf w k fn) E0 ta t) (mMeth c fn m mr) := fun F O ρ σ H Q hw R hh => by
  subst hw
  refine sa.bind rfl R hh fun x v ρ1 O1 H1 st1 R1 rx h1 => ?_
  split at h1
  · rename_i ho
    obtain ⟨fs, ex⟩ := isObj_some ho
    have rx' := rx
    rw [ex] at rx'
    obtain ⟨a, dx, vs, rfl, hsl, hrr⟩ := slt_of rx'
    refine ⟨a, dx, _, rfl, hsl, ?_⟩
    have key : Hold F W O1 σ H1 (RV F σ H1) Q ((mr ρ1).bind fun xs ρ2 => if xs.length + 1 = k then lift (fnN fn (x.1 :: xs)) ρ2 else .stuck) := by
      have h1 := h1.laterV st1
      cases q : mr ρ1 with
      | ok xs ρ2 =>
        rw [q] at h1
        show Hold F W O1 σ H1 (RV F σ H1) Q (if xs.length + 1 = k then _ else _)
        rw [if_pos (hn ρ1 ρ2 xs q)]
        exact h1
      | exc x ρ2 => rw [q] at h1; exact h1
      | stuck => rw [q] at h1; exact h1
    refine sr.bind rfl R1 key fun xs us ρ2 O2 H2 st2 R2 rs h2 => ?_
    split at h2
    · rename_i hk
      cases q : fnN fn (x.1 :: xs) with
      | none => rw [q] at h2; exact h2.elim
      | some z =>
        rw [q] at h2
        exact sp_of R2.dom (by simpa using hk) q (by simp only [RepL]; exact ⟨_, us, rfl, Rep.step st2 _ _ rx, rs⟩) (h2.go st2 R2)
    · exact h2.elim
  · exact h1.elim
theorem pm_meth {c n k : Nat} {g : Addr} {fn : Fn} {pl : Sem Bool} (hK : w.K = X.K) (hp : MethOk w c f g) (F : MthOk X.prog X.w X.K X.mg X.base w g (n + 1) k fn) (hr : Room k X.A) (ho : PM X w W o m) (ha : PMA X w W (e :: es) mr) (hn : Len mr n)
    (hst : starEach (e :: es) X.env = (false, eval e X.env) :: starEach es X.env := by rfl) (hpl : (backTo pos (starEach es X.env)).any (·.1) = false := by rfl)
    (ht : eval (.Call (.Attribute o f apos) (e :: es) [] pos) X.env = (do
      let ov ← eval o X.env
      standAt apos.atName
      let (f, first) ← holding [ov] (getMethod ov f pl)
      callWith pos f first (backTo pos (starEach (e :: es) X.env)) (backToKw pos (keywordEach [] X.env))) := by rfl) : PM X w W (.Call (.Attribute o f apos) (e :: es) [] pos) (mMeth c fn m mr) := by
  obtain ⟨to, po, so⟩ := ho
  obtain ⟨ta, pa, sa⟩ := ha
  exact ⟨_, SlX.pe_methSl (pl := pl) (E := E0) po (hK ▸ hp.sc) (hK ▸ hp.mt) F hr pass0 pa hst hpl ht, sim_meth so sa fun ρ ρ1 xs q => by rw [hn ρ ρ1 xs q]⟩
theorem pm_meth0 {c k : Nat} {g : Addr} {fn : Fn} {pl : Sem Bool} (hK : w.K = X.K) (hp : MethOk w c f g) (F : MthOk X.prog X.w X.K X.mg X.base w g 1 k fn) (hr : Room k X.A) (ho : PM X w W o m)
    (ht : eval (.Call (.Attribute o f apos) [] [] pos) X.env = (do
      let ov ← eval o X.env
      standAt apos.atName
      let (f, first) ← holding [ov] (getMethod ov f pl)
      callWith pos f first (backTo pos (starEach [] X.env)) (backToKw pos (keywordEach [] X.env))) := by rfl) : PM X w W (.Call (.Attribute o f apos) [] [] pos) (mMeth c fn m mNil) := by
  obtain ⟨to, po, so⟩ := ho
  exact ⟨_, SlX.pe_methSl0 (pl := pl) (E := E0) po (hK ▸ hp.sc) (hK ▸ hp.mt) F hr pass0 ht, sim_meth so sima_nil fun ρ ρ1 xs q => by cases q; rfl⟩

/-! ### operators of one's own -/
def rOwnB (C : Addr) (sp : Sp) : R2 := fun x y H Q => ∃ a dx vs b dy ws, x = .ref a ∧ y = .ref b ∧ SlX.Slt H a C dx vs ∧ SlX.Slt H b C dy ws ∧ sp [x, y] H Q E0
theorem op_ownB {op : Operator} {C g : Addr} {sp : Sp} {n : Nat} (hc : PySem.W.selfFirst X.K C = true) (hs : PySem.W.findIn X.K (.ref C) (PySem.dunder op.info.2) = some (some (.ref g))) (hf : PySem.W.isFn X.K (.ref g) = true) (F : FnR X.prog X.w X.K X.mg X.base CX0 n g sp) (hr : Room n X.A) : OpR X (binaryOp op) (rOwnB C sp) := by
  intro pins s σ H x y v u Q I rx ry h
  obtain ⟨a, dx, vs, b, dy, ws, rfl, rfl, ha, hb, q⟩ := h
  cases (show v = Value.ref a from rx)
  cases (show u = Value.ref b from ry)
  obtain ⟨sl, od, _, J, _⟩ := SlX.slt_inst I ha
  obtain ⟨sl', od', _, J', _⟩ := SlX.slt_inst I hb
  obtain ⟨m, hF⟩ := I.fr
  refine PySem.W.binop_K (op := op) hF I.ok.mod.kin J J'.type hc hs hf ?_
  refine wpAny_mono (wpAny_call (run_fnR (us := [.ref a, .ref b]) (vs := [.ref a, .ref b]) F hr pass0 I (.cons rfl (.cons rfl .nil)) q)) (fun w s' z => ?_) fun _ _ x => x
  obtain ⟨z', H', I', rz, qz⟩ := z
  exact SlX.cmpback rz ⟨z', H', I', rz, qz⟩
def objOp (c : Nat) (f : Fn) (x y : D) : Option Vl := if isObj c x = true ∧ isObj c y = true then fnN f [x, y] else none
theorem o2_own {c : Nat} {fn : Fn} : Op2 w (rOwnB (w.cl c) (spOf w 2 fn)) (objOp c fn) := fun O H x y z vx vy Q dm e hx hy k => by
  unfold objOp at e
  split at e
  · rename_i ho
    obtain ⟨fs, rfl⟩ := isObj_some ho.1
    obtain ⟨gs, rfl⟩ := isObj_some ho.2
    obtain ⟨a, dx, vs, ea, h1, _⟩ := slt_of hx
    obtain ⟨b, dy, us, eb, h2, _⟩ := slt_of hy
    refine ⟨a, dx, _, b, dy, _, ea, eb, h1, h2, sp_of dm rfl e ?_ k⟩
    simp only [RepL]
    exact ⟨vx, [vy], rfl, hx, vy, [], rfl, hy, rfl⟩
  · cases e
def orD (f g : D → D → Option Vl) (x y : D) : Option Vl := match f x y with
  | some z => some z
  | none => g x y
theorem Op2.or {r r' : R2} {f g : D → D → Option Vl} (h : Op2 w r f) (h' : Op2 w r' g) : Op2 w (fun x y H Q => r x y H Q ∨ r' x y H Q) (orD f g) := fun O H x y z vx vy Q dm e hx hy k => by
  unfold orD at e
  split at e
  · rename_i z' q
    cases e
    exact .inl (h O H x y z vx vy Q dm q hx hy k)
  · exact .inr (h' O H x y z vx vy Q dm e hx hy k)
structure OpOk (w : Wd) (c : Nat) (nm : Str) (g : Addr) : Prop where
  sf : PySem.W.selfFirst w.K (w.cl c) = true
  at_ : PySem.W.findIn w.K (.ref (w.cl c)) nm = some (some (.ref g))
  fn : PySem.W.isFn w.K (.ref g) = true
theorem pm_addO {c n : Nat} {g : Addr} {fn : Fn} (hK : w.K = X.K) (hp : OpOk w c "__add__" g) (F : MthOk X.prog X.w X.K X.mg X.base w g 2 n fn) (hr : Room n X.A) (ha : PM X w W e m) (hb : PM X w W e' m') : PM X w W (.BinOp e .Add e' pos) (mOp2 (orD addD (objOp c fn)) m m') :=
  pm_bin (op_addA.or (op_ownB (op := .Add) (hK ▸ hp.sf) (hK ▸ hp.at_) (hK ▸ hp.fn) F hr)) (Op2.or (hK ▸ o2_add) o2_own) ha hb
theorem pm_orO {c n : Nat} {g : Addr} {fn : Fn} (hK : w.K = X.K) (hp : OpOk w c "__or__" g) (F : MthOk X.prog X.w X.K X.mg X.base w g 2 n fn) (hr : Room n X.A) (ha : PM X w W e m) (hb : PM X w W e' m') : PM X w W (.BinOp e .BitOr e' pos) (mOp2 (objOp c fn) m m') :=
  pm_bin (op_ownB (op := .BitOr) (hK ▸ hp.sf) (hK ▸ hp.at_) (hK ▸ hp.fn) F hr) o2_own ha hb
end
end PM

namespace PM
open PySem PySem.Spec PyProof.Rows PySem.W

section
variable {prog : Program} {w : World} {A : Around} {E : Value → Shared → Prop} {s : Shared} {K : Frag} {x C L f : Addr} {h₀ : Heap} {m : Str → Option Value} {ox : Obj} {od : Option Obj} {b tb : Value}
/-- a special method that is object's own, found in a class -/
theorem bound_ne {M : Model} {args : List Value} {Q : Option Value → Shared → Prop} (X : K.In s.heap) (I : InstAt s.heap x ox C od) (hs : findIn K (.ref C) "__ne__" = some (some (.builtin "object.__ne__")))
    (h : wpAny M A (call (.builtin "object.__ne__") (.ref x :: args)) (fun v => Q (some v)) E s) : wpAny M A (callSpecialIfBound? (.ref x) "__ne__" args) Q E s := by
  have last : wpAny M A (call (.builtin "object.__ne__") ([.ref x] ++ args) >>= fun v => pure (some v)) Q E s := wpAny_bind (wpAny_mono h (fun v s' q => wpAny_pure q) fun _ _ q => q)
  simp only [callSpecialIfBound?, bindSpecialIfBound?]
  refine wpAny_holding (wpAny_bind (wpAny_bind (wpAny_bind (I.type.here ((looks_findIn X hs).here ?_)))))
  refine wpAny_bind (wpAny_askSetting (wpAny_ite ?_))
  split
  · exact wpAny_bind (wpAny_of_eq (F.cmp_object.ne.bind _) (wpAny_pure last))
  · exact wpAny_tryCatch (wpAny_bind (wpAny_of_eq (F.cmp_object.ne.bind _) (wpAny_pure last)))
theorem entry_neK {Q : Fin → Shared → Prop} (hu : A.units < cLine) (X : K.In s.heap) (I : InstAt s.heap x ox C od) (hs : findIn K (.ref C) "__eq__" = some (some (.ref f))) (hf : isFn K (.ref f) = true)
    (h : wpAny (model prog w) A (call (.ref f) [.ref x, b]) (fun v s' => ∃ k, v = .bool k ∧ Q (.done (.ret (.bool (!k)))) s') E s) : wpAny (model prog w) A (Builtin.«object.__ne__» ⟨[.ref x, b], []⟩) Q E s := by
  have main : wpAny (model prog w) A (callSpecialIfBound? (.ref x) "__eq__" [b]) (fun r s' => ∃ k, r = some (.bool k) ∧ Q (.done (.ret (.bool (!k)))) s') E s := ifBound_K X I hs hf (wpAny_mono h (fun v s' ⟨k, e, q⟩ => ⟨k, by rw [e], q⟩) fun _ _ q => q)
  unfold Builtin.«object.__ne__»
  repeat (first | with_reducible refine wpAny_cRoomFor hu ?_ | with_reducible refine wpAny_mono main (fun r s' z => ?_) fun _ _ q => q | wp_step)
  obtain ⟨k, rfl, q⟩ := z
  repeat (first | with_reducible refine wpAny_truthy_bool ?_ | wp_step)
  exact q
theorem ne_K {Q : Value → Shared → Prop} (hu : A.units + 1 < cLine) (Fm : PyProof.Rows.Fr h₀ L s.heap m) (X₀ : K.In h₀) (I : InstAt s.heap x ox C od) (hb : Looks (model prog w) s.heap (typeOf b) tb) (hn : notFirst K C tb = true) (hne : findIn K (.ref C) "__ne__" = some (some (.builtin "object.__ne__")))
    (hm : mroIn K C (.type "object") = some true) (hs : findIn K (.ref C) "__eq__" = some (some (.ref f))) (hf : isFn K (.ref f) = true)
    (h : wpAny (model prog w) A.in1 (call (.ref f) [.ref x, b]) (fun v s' => ∃ k, v = .bool k ∧ Q (.bool (!k)) s') E s) : wpAny (model prog w) A (richCompare .NotEq (.ref x) b) Q E s := by
  have X := X₀.keeps Fm.keep
  have one : wpAny (model prog w) A (tryCompare (.ref x) "__ne__" b) (fun r s' => ∃ v, r = some v ∧ Q v s') E s := by
    unfold tryCompare
    refine wpAny_bind (bound_ne X I hne ?_)
    refine wpAny_call (codeAny_call_builtin F.cmp_object.ne.plain F.cmpEntry_ne (check_slot F.cmpKind_ne F.cmpSplit_ne (I.type.andThen (looks_mroIn X hm)) (F.cmpArgs_ne _ _) ?_))
    refine entry_neK (A := A.in1) hu X I hs hf (wpAny_mono h (fun v s' ⟨k, e, q⟩ => ⟨k, e, ?_⟩) fun _ _ q => q)
    exact wpAny_pure ⟨_, rfl, q⟩
  unfold richCompare
  simp only [oneThing_ref]
  refine wpAny_holding (wpAny_bind (wpAny_cRoomFor (by omega) ?_))
  refine wpAny_bind (I.type.here (wpAny_bind (hb.here ?_)))
  split
  · rename_i q
    have e : subIn K tb (.ref C) = some false := by
      rcases Bool.or_eq_true_iff.mp hn with e | e
      · rw [beq_iff_eq.mp e] at q; simp at q
      · exact beq_iff_eq.mp e
    refine wpAny_bind ((looks_subIn X e).here ?_)
    simp only [Bool.false_eq_true, if_false]
    refine wpAny_bind (wpAny_mono one (fun r s' z => ?_) fun _ _ e => e)
    obtain ⟨v, rfl, hq⟩ := z
    exact wpAny_pure hq
  · refine wpAny_bind (wpAny_pure ?_)
    simp only [Bool.false_eq_true, if_false]
    refine wpAny_bind (wpAny_mono one (fun r s' z => ?_) fun _ _ e => e)
    obtain ⟨v, rfl, hq⟩ := z
    exact wpAny_pure hq
end
end PM
namespace PM
open PySem L2
/-! ### ==, != with an instance on the left -/
inductive TyR (H : Hp) : V → Value → Prop where
  | non : TyR H .non (.type "NoneType")
  | bl (x : Bool) : TyR H (.bl x) (.type "bool")
  | int (i : Int) : TyR H (.int i) (.type "int")
  | str (x : Str) : TyR H (.str x) (.type "str")
  | ins {b C dy : Addr} {ws : List (Option V)} (h : SlX.Slt H b C dy ws) : TyR H (.ref b) (.ref C)
theorem TyR.looks {X : Cx} {pins : List (Addr × Obj)} {σ : L2.St} {H : Hp} {s : Shared} {v : V} {t u : Value} (I : Inv X pins σ H s) (h : TyR H v t) (r : RelV v u) : PySem.W.Looks (model X.prog X.w) s.heap (typeOf u) t := by
  cases h with
  | non => cases r; exact PySem.W.Looks.of_pure rfl
  | bl x => cases r; exact PySem.W.Looks.of_pure rfl
  | int i => obtain ⟨t, rfl⟩ := r; exact PySem.W.Looks.of_pure rfl
  | str x => obtain ⟨t, rfl⟩ := r; exact PySem.W.Looks.of_pure rfl
  | ins h =>
    cases r
    obtain ⟨sl, od, _, J, _⟩ := SlX.slt_inst I h
    exact J.type
def rEqO (K : PySem.W.Frag) (C : Addr) (sp : Sp) : R2 := fun x y H Q => ∃ a dx vs t, x = .ref a ∧ SlX.Slt H a C dx vs ∧ TyR H y t ∧ PySem.W.notFirst K C t = true ∧ sp [x, y] H Q E0
def rNeO (K : PySem.W.Frag) (C : Addr) (sp : Sp) : R2 := fun x y H Q => ∃ a dx vs t, x = .ref a ∧ SlX.Slt H a C dx vs ∧ TyR H y t ∧ PySem.W.notFirst K C t = true ∧ sp [x, y] H (fun v H' => ∃ k, v = .bl k ∧ Q (.bl (!k)) H') E0
section
variable {X : Cx} {C g : Addr} {sp : Sp} {n : Nat}
theorem op_eqO (hs : PySem.W.findIn X.K (.ref C) "__eq__" = some (some (.ref g))) (hf : PySem.W.isFn X.K (.ref g) = true) (F : FnR X.prog X.w X.K X.mg X.base CX0 n g sp) (hr : Room n X.A) : OpR X (compareOp .Eq) (rEqO X.K C sp) := by
  intro pins s σ H x y v u Q I rx ry h
  obtain ⟨a, dx, vs, t, rfl, ha, ty, hn, q⟩ := h
  cases (show v = Value.ref a from rx)
  obtain ⟨sl, od, _, J, _⟩ := SlX.slt_inst I ha
  obtain ⟨m, hF⟩ := I.fr
  show wpAny _ _ (richCompare .Eq _ _) _ _ _
  refine PySem.W.cmp_K (op := .Eq) hr.units0 hF I.ok.mod.kin J (ty.looks I ry) hn hs hf ?_
  refine wpAny_mono (wpAny_call (run_fnR (us := [.ref a, u]) (vs := [.ref a, y]) F hr pass0 I (.cons rfl (.cons ry .nil)) q)) (fun w s' z => ?_) fun _ _ x => x
  obtain ⟨z', H', I', rz, qz⟩ := z
  exact SlX.cmpback rz ⟨z', H', I', rz, qz⟩
theorem op_neO (hne : PySem.W.findIn X.K (.ref C) "__ne__" = some (some (.builtin "object.__ne__"))) (hm : PySem.W.mroIn X.K C (.type "object") = some true) (hs : PySem.W.findIn X.K (.ref C) "__eq__" = some (some (.ref g))) (hf : PySem.W.isFn X.K (.ref g) = true)
    (F : FnR X.prog X.w X.K X.mg X.base CX0 n g sp) (hr : Room (n + 1) X.A) : OpR X (compareOp .NotEq) (rNeO X.K C sp) := by
  intro pins s σ H x y v u Q I rx ry h
  obtain ⟨a, dx, vs, t, rfl, ha, ty, hn, q⟩ := h
  cases (show v = Value.ref a from rx)
  obtain ⟨sl, od, _, J, _⟩ := SlX.slt_inst I ha
  obtain ⟨m, hF⟩ := I.fr
  show wpAny _ _ (richCompare .NotEq _ _) _ _ _
  refine ne_K (by have := hr.units; omega) hF I.ok.mod.kin J (ty.looks I ry) hn hne hm hs hf ?_
  refine wpAny_mono (wpAny_call (SlX.run_at (us := [.ref a, u]) (ws := [.ref a, y]) F hr.in1 I.env0.in1 pass0 I (.cons rfl (.cons ry .nil)) q)) (fun w s' z => ?_) fun _ _ x => x
  obtain ⟨z', H', I', rz, k, ez, qz⟩ := z
  subst ez
  cases rz
  exact ⟨k, rfl, .bl (!k), H', I', rfl, qz⟩
end
structure EqOk (w : Wd) (c : Nat) (g : Addr) : Prop where
  at_ : PySem.W.findIn w.K (.ref (w.cl c)) "__eq__" = some (some (.ref g))
  fn : PySem.W.isFn w.K (.ref g) = true
  ne : PySem.W.findIn w.K (.ref (w.cl c)) "__ne__" = some (some (.builtin "object.__ne__"))
  mr : PySem.W.mroIn w.K (w.cl c) (.type "object") = some true
  nf : ∀ t ∈ ["NoneType", "bool", "int", "str"], PySem.W.notFirst w.K (w.cl c) (.type t) = true
def flatR (c : Nat) : D → Bool
  | .non => true
  | .bl _ => true
  | .int _ => true
  | .str _ => true
  | .obj c' _ => c' == c
  | _ => false
def eqO (c : Nat) (f : Fn) (x y : D) : Option Vl := if isObj c x = true ∧ flatR c y = true then fnN f [x, y] else none
def notZ : Vl → Option Vl
  | (.bl k, false) => some (.bl (!k), false)
  | _ => none
theorem notZ_some {z' z : Vl} (h : notZ z' = some z) : ∃ b, z' = (.bl b, false) ∧ z = (.bl (!b), false) := by
  unfold notZ at h
  split at h
  · cases h; exact ⟨_, rfl, rfl⟩
  · cases h
def neO (c : Nat) (f : Fn) (x y : D) : Option Vl := (eqO c f x y).bind notZ
section
variable {w : Wd} {W : WX} {X : Cx} {pos : Pos} {e e' : Expr} {m m' : ME} {c n : Nat} {g : Addr} {fn : Fn}
theorem tyr_of {O : Av} {H : Hp} {d : D} {v : V} (hp : EqOk w c g) (h : Rep w O H d v) (e : flatR c d = true) : ∃ t, TyR H v t ∧ PySem.W.notFirst w.K (w.cl c) t = true := by
  cases d with
  | non => simp only [Rep] at h; subst h; exact ⟨_, .non, hp.nf _ (by simp)⟩
  | bl x => simp only [Rep] at h; subst h; exact ⟨_, .bl x, hp.nf _ (by simp)⟩
  | int x => simp only [Rep] at h; subst h; exact ⟨_, .int x, hp.nf _ (by simp)⟩
  | str x => simp only [Rep] at h; subst h; exact ⟨_, .str x, hp.nf _ (by simp)⟩
  | obj c' fs =>
    have z : c' = c := by simpa [flatR] using e
    subst z
    obtain ⟨a, dx, vs, rfl, hsl, _⟩ := slt_of h
    exact ⟨_, .ins hsl, by unfold PySem.W.notFirst; simp⟩
  | _ => simp [flatR] at e
theorem o2_eqO (hp : EqOk w c g) : Op2 w (rEqO w.K (w.cl c) (spOf w 2 fn)) (eqO c fn) := fun O H x y z vx vy Q dm e hx hy k => by
  unfold eqO at e
  split at e
  · rename_i ho
    obtain ⟨fs, rfl⟩ := isObj_some ho.1
    obtain ⟨a, dx, vs, ea, h1, _⟩ := slt_of hx
    obtain ⟨t, h2, h3⟩ := tyr_of hp hy ho.2
    refine ⟨a, dx, _, t, ea, h1, h2, h3, sp_of dm rfl e ?_ k⟩
    simp only [RepL]
    exact ⟨vx, [vy], rfl, hx, vy, [], rfl, hy, rfl⟩
  · cases e
theorem o2_neO (hp : EqOk w c g) : Op2 w (rNeO w.K (w.cl c) (spOf w 2 fn)) (neO c fn) := fun O H x y z vx vy Q dm e hx hy k => by
  unfold neO at e
  cases q : eqO c fn x y with
  | none => rw [q] at e; cases e
  | some z' =>
    rw [q] at e
    obtain ⟨b, rfl, rfl⟩ := notZ_some (show notZ z' = some z from e)
    unfold eqO at q
    split at q
    · rename_i ho
      obtain ⟨fs, rfl⟩ := isObj_some ho.1
      obtain ⟨a, dx, vs, ea, h1, _⟩ := slt_of hx
      obtain ⟨t, h2, h3⟩ := tyr_of hp hy ho.2
      refine ⟨a, dx, _, t, ea, h1, h2, h3, sp_of dm rfl q ?_ fun v H' gr gv => ?_⟩
      · simp only [RepL]
        exact ⟨vx, [vy], rfl, hx, vy, [], rfl, hy, rfl⟩
      · refine ⟨b, rep_bl (w := w) (O := O) (H := H') gv, ?_⟩
        exact (Go.later gr k).val (by simp only [Rep])
    · cases q
theorem pm_eqO (hK : w.K = X.K) (hp : EqOk w c g) (F : MthOk X.prog X.w X.K X.mg X.base w g 2 n fn) (hr : Room n X.A) (ha : PM X w W e m) (hb : PM X w W e' m') : PM X w W (.Compare e [.Eq] [e'] pos) (mOp2 (orD eqD (eqO c fn)) m m') :=
  pm_cmp ((op_eqD hr.units).or (op_eqO (hK ▸ hp.at_) (hK ▸ hp.fn) F hr)) (Op2.or (hK ▸ o2_eqD) (hK ▸ o2_eqO hp)) ha hb (nomark _)
theorem pmt_eqO (hK : w.K = X.K) (hp : EqOk w c g) (F : MthOk X.prog X.w X.K X.mg X.base w g 2 n fn) (hr : Room n X.A) (ha : PM X w W e m) (hb : PM X w W e' m') : PMT X w W (.Compare e [.Eq] [e'] pos) (mTest (mOp2 (orD eqD (eqO c fn)) m m')) :=
  pmt_cmp ((op_eqD hr.units).or (op_eqO (hK ▸ hp.at_) (hK ▸ hp.fn) F hr)) (Op2.or (hK ▸ o2_eqD) (hK ▸ o2_eqO hp)) ha hb (nomark _)
theorem pm_neO (hK : w.K = X.K) (hp : EqOk w c g) (F : MthOk X.prog X.w X.K X.mg X.base w g 2 n fn) (hr : Room (n + 1) X.A) (ha : PM X w W e m) (hb : PM X w W e' m') : PM X w W (.Compare e [.NotEq] [e'] pos) (mOp2 (orD neD (neO c fn)) m m') :=
  pm_cmp ((op_neD hr.units).or (op_neO (hK ▸ hp.ne) (hK ▸ hp.mr) (hK ▸ hp.at_) (hK ▸ hp.fn) F hr)) (Op2.or (hK ▸ o2_neD) (hK ▸ o2_neO hp)) ha hb (nomark _)
theorem pmt_neO (hK : w.K = X.K) (hp : EqOk w c g) (F : MthOk X.prog X.w X.K X.mg X.base w g 2 n fn) (hr : Room (n + 1) X.A) (ha : PM X w W e m) (hb : PM X w W e' m') : PMT X w W (.Compare e [.NotEq] [e'] pos) (mTest (mOp2 (orD neD (neO c fn)) m m')) :=
  pmt_cmp ((op_neD hr.units).or (op_neO (hK ▸ hp.ne) (hK ▸ hp.mr) (hK ▸ hp.at_) (hK ▸ hp.fn) F hr)) (Op2.or (hK ▸ o2_neD) (hK ▸ o2_neO hp)) ha hb (nomark _)
end
end PM

namespace PM
open PySem PySem.Spec PyProof.Rows L2

/-! ### an instance that is being made: its slots -/
def putD : Nat → D → List (Option D) → List (Option D)
  | 0, d, [] => [some d]
  | 0, d, _ :: xs => some d :: xs
  | i + 1, d, [] => none :: putD i d []
  | i + 1, d, x :: xs => x :: putD i d xs
theorem putS_cons {i : Nat} {v : V} {x : Option V} {vs : List (Option V)} : SlX.putS (i + 1) v (x :: vs) = x :: SlX.putS i v vs := by
  unfold SlX.putS
  simp only [List.length_cons, List.cons_append, List.set_cons_succ, Nat.add_sub_add_right]
theorem putS_nil {i : Nat} {v : V} : SlX.putS (i + 1) v [] = none :: SlX.putS i v [] := by
  unfold SlX.putS
  simp [List.replicate_succ]
theorem putS_zero {v : V} {x : Option V} {vs : List (Option V)} : SlX.putS 0 v (x :: vs) = some v :: vs := by
  unfold SlX.putS
  simp
theorem RepO.put {w : Wd} {O : Av} {H : Hp} {d : D} {v : V} (h : Rep w O H d v) : ∀ (i : Nat) (ds : List (Option D)) (vs : List (Option V)), RepO w O H ds vs → RepO w O H (putD i d ds) (SlX.putS i v vs)
  | 0, [], vs, e => by
    cases (show vs = [] from e)
    exact ⟨v, [], rfl, h, rfl⟩
  | 0, x :: ds, vs, e => by
    cases x with
    | none =>
      obtain ⟨vs', rfl, e⟩ := e
      rw [putS_zero]
      exact ⟨v, vs', rfl, h, e⟩
    | some y =>
      obtain ⟨u, vs', rfl, _, e⟩ := e
      rw [putS_zero]
      exact ⟨v, vs', rfl, h, e⟩
  | i + 1, [], vs, e => by
    cases (show vs = [] from e)
    rw [putS_nil]
    exact ⟨_, rfl, RepO.put h i [] [] rfl⟩
  | i + 1, x :: ds, vs, e => by
    cases x with
    | none =>
      obtain ⟨vs', rfl, e⟩ := e
      rw [putS_cons]
      exact ⟨_, rfl, RepO.put h i ds vs' e⟩
    | some y =>
      obtain ⟨u, vs', rfl, h1, e⟩ := e
      rw [putS_cons]
      exact ⟨u, _, rfl, h1, RepO.put h i ds vs' e⟩
def allS : List (Option D) → Option (List D)
  | [] => some []
  | none :: _ => none
  | some d :: ds => (allS ds).map fun xs => d :: xs
theorem RepO.all {w : Wd} {O : Av} {H : Hp} : ∀ (ds : List (Option D)) (xs : List D) (vs : List (Option V)), RepO w O H ds vs → allS ds = some xs → ∃ us : List V, vs = us.map some ∧ RepL w O H xs us
  | [], xs, vs, h, e => by
    cases e
    exact ⟨[], h, by simp only [RepL]⟩
  | none :: ds, xs, vs, h, e => by cases e
  | some d :: ds, xs, vs, ⟨v, vs', e1, h1, h2⟩, e => by
    have e : (allS ds).map (fun xs => d :: xs) = some xs := e
    cases q : allS ds with
    | none => rw [q] at e; cases e
    | some ys =>
      rw [q] at e
      cases e
      obtain ⟨us, e2, h3⟩ := RepO.all ds ys vs' h2 q
      exact ⟨v :: us, by rw [e1, e2]; rfl, by simp only [RepL]; exact ⟨v, us, rfl, h1, h3⟩⟩
def fldS (i : Nat) (ix : Nat) (d : D) (ρ : En) : Option En := match muOf i ρ with
  | some (s, .ins c fs) => some (ρ.set i (s.put (.ins c (putD ix d fs))))
  | _ => none
structure SetOk (w : Wd) (c : Nat) (f : Str) (ix : Nat) : Prop where
  sc : SlX.SCls w.K (w.cl c)
  sl : ∃ p, SlX.Slot1 w.K (w.cl c) f p ix
def clsAt (i c : Nat) (ρ : En) : Bool := match muOf i ρ with
  | some (_, .ins c' _) => c' == c
  | _ => false
section
variable {w : Wd} {W : WX} {X : Cx} {pos pos' p : Pos} {e : Expr} {m : ME} {x f : Str}
theorem slH_mut {O : Av} {ρ ρ1 : En} {σ : L2.St} {H : Hp} {F : Fr} {i ix c : Nat} {d : D} {v : V} (R : Rel F O ρ σ H) (hc : clsAt i c ρ = true) (h : Rep F.w O H d v) (e : fldS i ix d ρ = some ρ1) :
    ∃ a dx vs, σ[i]? = some (some (.ref a)) ∧ SlX.Slt H a (F.w.cl c) dx vs ∧ Rel F O ρ1 σ (SlX.slH H a (F.w.cl c) dx (SlX.putS ix v vs)) ∧ Step O H O (SlX.slH H a (F.w.cl c) dx (SlX.putS ix v vs)) := by
  unfold fldS at e
  unfold clsAt at hc
  cases q : muOf i ρ with
  | none => rw [q] at e; cases e
  | some sm =>
    obtain ⟨s, mu⟩ := sm
    rw [q] at e hc
    cases mu with
    | lst _ => cases e
    | dct _ _ => cases e
    | ins c' fs =>
      have hc : c' = c := by simpa using hc
      subst hc
      cases e
      obtain ⟨e1, g1⟩ := muOf_some q
      obtain ⟨a, ea, oa, dx, vs, h1, h2, h3, h4, h5⟩ := R.muAt e1 g1
      have hk : ∀ b o, b ≠ a → H b = some o → SlX.slH H a (F.w.cl c') dx (SlX.putS ix v vs) b = some o := fun b o n z => by
        by_cases hb : b = dx
        · subst hb
          rw [h4] at z
          cases z
          unfold SlX.slH
          rw [upd_ne h2, upd_same]
        · rw [SlX.slH_ne n hb]
          exact z
      have dm : ∀ b, H b ≠ none → SlX.slH H a (F.w.cl c') dx (SlX.putS ix v vs) b ≠ none := fun b z => by
        by_cases hb : b = a
        · subst hb
          unfold SlX.slH
          rw [upd_same]
          simp
        · cases z2 : H b with
          | none => exact absurd z2 z
          | some o => rw [hk b o hb z2]; simp
      have st : Step O H O (SlX.slH H a (F.w.cl c') dx (SlX.putS ix v vs)) := ⟨fun _ z => .inl z, fun b o n z => hk b o (fun z2 => n (by rw [z2]; exact oa)) z, dm⟩
      refine ⟨a, dx, vs, ea, .inr ⟨h1, h4⟩, ?_, st⟩
      refine R.mutG e1 g1 ea hk st (fun _ z => z) (fun b z => dm b (R.dom b z)) ⟨dx, SlX.putS ix v vs, ?_, h2, h3, hk _ _ h2 h4, RepO.put (Rep.step st d v h) ix fs vs (RepO.step st fs vs h5)⟩
      unfold SlX.slH
      rw [upd_same]
/-- self.f = e -/
def mSetF (i c ix : Nat) (m : ME) : MS := fun ρ => (m ρ).bind fun y ρ1 => if clsAt i c ρ1 = true then nxt (fldS i ix y.1 ρ1) else .stuck
theorem pms_fld {i c ix : Nat} (hK : w.K = X.K) (hp : SetOk w c f ix) (he : PM X w W e m) (hN : X.N[i]? = some x := by rfl) (hv : Vis X.env.scope x := by first | exact Or.inl rfl | exact Or.inr (Or.inl rfl) | exact Or.inr (Or.inr rfl)) (hd : (x == ("__debug__" : Str)) = false := by decide)
    (hcd : (x == ("__classdict__" : Str)) = false := by decide) (hs : swapsWith e (some (.Attribute (.Name x p) f pos')) pos.line X.env = pure false := by rfl) : PMS X w W (.Assign [.Attribute (.Name x p) f pos'] e pos) (mSetF i c ix m) := by
  obtain ⟨te, pe, se⟩ := he
  refine ⟨_, SlX.ps_sl (pe_var hN hv hd hcd) pe hs, fun F O ρ σ H E hw R hh => ?_⟩
  subst hw
  refine se.bindS rfl R hh fun y v ρ1 O1 H1 st1 R1 rv h1 => ?_
  obtain ⟨O2, s2, R2, r2, s3⟩ := VlAt.release st1 R1 R.doh rv
  split at h1
  · rename_i hc
    cases q : fldS i ix y.1 ρ1 with
    | none => rw [q] at h1; exact h1.elim
    | some ρ2 =>
      rw [q] at h1
      obtain ⟨a, dx, vs, ea, hsl, R3, s4⟩ := slH_mut R2 hc r2 q
      obtain ⟨hsc, pp, hs1⟩ := hp
      rw [hK] at hsc hs1
      exact ⟨.ref a, ea, a, _, dx, pp, vs, ix, rfl, hsl, hsc, hs1, h1 O2 σ _ (s3.trans s4) R3⟩
  · exact h1.elim

/-! ### self.f, self.g, .. = e -/
def gFld (K : PySem.W.Frag) (i : Nat) (f : Str) : TG := fun y σ H Q => ∃ a C dx p vs j, σ[i]? = some (some (.ref a)) ∧ SlX.Slt H a C dx vs ∧ SlX.SCls K C ∧ SlX.Slot1 K C f p j ∧ Q σ (SlX.slH H a C dx (SlX.putS j y vs))
theorem pg_fld {i : Nat} (hN : X.N[i]? = some x) (hv : Vis X.env.scope x) (hd : (x == ("__debug__" : Str)) = false) (hcd : (x == ("__classdict__" : Str)) = false) : PG X (.Attribute (.Name x p) f pos') (gFld X.K i f) := by
  refine ⟨fun pins s σ H v u Q I r h => ?_⟩
  obtain ⟨a, C, dx, pp, vs, j, ea, hsl, hsc, hs1, q⟩ := h
  refine PySem.W.kas_attr (thn ((pe_var (pos := p) hN hv hd hcd).run pins s σ H (fun z H1 => z = .ref a ∧ H1 = H) I ⟨.ref a, ea, rfl, rfl⟩) fun ov s1 hz => ?_)
  obtain ⟨z, H1, I1, rz, e1, e2⟩ := hz
  subst e1
  subst e2
  obtain rfl : ov = Value.ref a := rz
  exact SlX.setslot_ok I1 hsl hsc hs1 r fun s3 I3 => ⟨σ, _, I3, q⟩
def fldsS (i c : Nat) : List Nat → List D → En → Option En
  | [], [], ρ => some ρ
  | j :: js, d :: ds, ρ => if clsAt i c ρ = true then (fldS i j d ρ).bind fun ρ1 => fldsS i c js ds ρ1 else none
  | _, _, _ => none
def SimFs (w : Wd) (i c : Nat) (js : List Nat) (g : TGs) : Prop := ∀ (F : Fr) (O : Av) (ρ ρ1 : En) (σ : L2.St) (H : Hp) (vs : List V) (ds : List D) (Q : L2.St → Hp → Prop), F.w = w → Rel F O ρ σ H → RepL F.w O H ds vs → fldsS i c js ds ρ = some ρ1 → (∀ H1, Step O H O H1 → Rel F O ρ1 σ H1 → Q σ H1) → g vs σ H Q
def PMFs (X : Cx) (w : Wd) (i c : Nat) (es : List Expr) (js : List Nat) : Prop := ∃ g, PGs X es g ∧ SimFs w i c js g
theorem pmfs_nil {i c : Nat} : PMFs X w i c [] [] := ⟨_, pgs_nil, fun F O ρ ρ1 σ H vs ds Q hw R h e k => by
  cases ds with
  | nil =>
    simp only [RepL] at h
    cases e
    exact ⟨h, k H (Step.refl _ _) R⟩
  | cons d ds => cases e⟩
theorem pmfs_cons {i c j : Nat} {js : List Nat} {es : List Expr} (hK : w.K = X.K) (hp : SetOk w c f j) (h2 : PMFs X w i c es js) (hN : X.N[i]? = some x := by rfl) (hv : Vis X.env.scope x := by first | exact Or.inl rfl | exact Or.inr (Or.inl rfl) | exact Or.inr (Or.inr rfl)) (hd : (x == ("__debug__" : Str)) = false := by decide)
    (hcd : (x == ("__classdict__" : Str)) = false := by decide) (hs : (assignEach (.Attribute (.Name x p) f pos' :: es) X.env).map (·.2) = assign (.Attribute (.Name x p) f pos') X.env :: (assignEach es X.env).map (·.2) := by rfl) : PMFs X w i c (.Attribute (.Name x p) f pos' :: es) (j :: js) := by
  obtain ⟨g2, p2, s2⟩ := h2
  refine ⟨_, pgs_cons (pg_fld hN hv hd hcd) p2 hs, fun F O ρ ρ1 σ H vs ds Q hw R h ee k => ?_⟩
  subst hw
  cases ds with
  | nil => cases ee
  | cons d ds =>
    simp only [RepL] at h
    obtain ⟨v, vs', rfl, r1, r2⟩ := h
    have ee : (if clsAt i c ρ = true then (fldS i j d ρ).bind fun ρ1 => fldsS i c js ds ρ1 else none) = some ρ1 := ee
    split at ee
    · rename_i hc
      cases q : fldS i j d ρ with
      | none => rw [q] at ee; cases ee
      | some ρ2 =>
        rw [q] at ee
        obtain ⟨a, dx, us, ea, hsl, R3, s4⟩ := slH_mut R hc r1 q
        obtain ⟨hsc, pp, hs1⟩ := hp
        rw [hK] at hsc hs1
        exact ⟨v, vs', rfl, a, _, dx, pp, us, j, ea, hsl, hsc, hs1, s2 F O ρ2 ρ1 σ _ vs' ds Q rfl R3 (RepL.step s4 ds vs' r2) ee fun H1 s5 R5 => k H1 (s4.trans s5) R5⟩
    · cases ee
def fldsT (i c : Nat) (js : List Nat) (d : D) (ρ : En) : Option En := match d with
  | .tup ds => if ds.length = js.length then fldsS i c js ds ρ else none
  | _ => none
def mSetFs (i c : Nat) (js : List Nat) (m : ME) : MS := fun ρ => (m ρ).bind fun y ρ1 => nxt (fldsT i c js y.1 ρ1)
theorem pms_flds {i c : Nat} {js : List Nat} {es : List Expr} {k : Nat} {pt : Pos} (hK : w.K = X.K) (hc : X.calm = true) (he : PM X w W e m) (h : PMFs X w i c es js) (hn : (assignEach es X.env).length = js.length := by rfl) (hst : (assignEach es X.env).findIdx? (·.1) = none := by rfl)
    (hs : swapsWithSole [.Tuple es k pt] e pos.line X.env = pure false := by rfl) (hsw : swappedStores [.Tuple es k pt] e X.env = pure none := by rfl) (h1 : (assignEach [.Tuple es k pt] X.env).map (·.2) = [assign (.Tuple es k pt) X.env] := by rfl) : PMS X w W (.Assign [.Tuple es k pt] e pos) (mSetFs i c js m) := by
  obtain ⟨te, pe, se⟩ := he
  obtain ⟨g, pg, sg⟩ := h
  refine ⟨_, ps_asg pe (pg_tup hc pg hn hst) hs hsw h1, fun F O ρ σ H E hw R hh => ?_⟩
  subst hw
  refine se.bindS rfl R hh fun y v ρ1 O1 H1 st1 R1 rv h1 => ?_
  obtain ⟨O2, s2, R2, r2, s3⟩ := VlAt.release st1 R1 R.doh rv
  cases q : fldsT i c js y.1 ρ1 with
  | none => rw [q] at h1; exact h1.elim
  | some ρ2 =>
    rw [q] at h1
    unfold fldsT at q
    split at q
    · rename_i ds ey
      split at q
      · rename_i hl
        rw [ey] at r2
        simp only [Rep] at r2
        obtain ⟨a, vs, rfl, h3, h4⟩ := r2
        refine ⟨a, vs, rfl, ?_, by rw [h4.length]; exact hl, sg F O2 ρ1 ρ2 σ H1 vs ds _ rfl R2 h4 q fun H2 s5 R5 => h1 O2 σ H2 (s3.trans s5) R5⟩
        rw [← hK]
        exact sq_of_rep h3
      · cases q
    · cases q
end

/-! ### the body of __init__: the new instance -/
def tRe (C : Addr) (t : TS) : TS := fun Z σ H => ∃ x dx, σ[(0 : Nat)]? = some (some (.ref x)) ∧ SlX.Slt H x C dx [] ∧ t Z σ (SlX.slH H x C dx [])
theorem pss_re {X : Cx} {body : List Stmt} {t : TS} {C : Addr} (h : PSs X body t) : PSs X body (tRe C t) := by
  refine ⟨fun pins s σ H Z I hh => ?_⟩
  obtain ⟨x, dx, _, hsl, q⟩ := hh
  obtain ⟨ne, sl, mA, e0, r0, n, qn⟩ := SlX.slt_at I hsl
  have I2 : Inv X pins σ (SlX.slH H x C dx []) s := SlX.inv_slot (h' := s.heap) (t' := s.toks) I hsl (fun _ _ _ _ z => z) (fun _ z => z) e0 r0
  exact h.run pins s σ _ Z I2 q
/-- what __init__ is worth: called with a new instance -/
def spIn (w : Wd) (c k : Nat) (f : Fn) : Sp := fun vs H Q E => ∃ x dx vs', vs = .ref x :: vs' ∧ SlX.Slt H x (w.cl c) dx [] ∧ spOf w k f vs (SlX.slH H x (w.cl c) dx []) Q E
section
variable {P : Program} {wo : World} {K : PySem.W.Frag} {mg : Str → Option Value} {base : Heap} {w : Wd}
theorem init_ok0 {c : Nat} {x qual : Str} {st : Stmt} {f : Addr} {fd : FuncData} {N ps : List Str} {k : Nat} {m : MS} (F : Fun K x qual st f fd) (S : FnScope N ps (defScope st)) (hl : ps.length ≤ N.length)
    (hb : ∀ (cdv : Value) (A : Around) (outer : List Env) (s : Shared) (H : Hp) (E : XK), Room k (A.deeper (envOfC qual (defScope st) s.heap.objs.size f cdv)) →
      PMSs (cxOf CX0 P wo K mg base N qual (defScope st) f cdv A outer s H E).nox w W0 (defBody st) m) : FnOk P wo K mg base CX0 (k + 1) f fd ps (spIn w c ps.length (noX (fnSem N.length ps.length m))) := by
  have len : ∀ vs H Q E, spIn w c ps.length (noX (fnSem N.length ps.length m)) vs H Q E → vs.length = ps.length := fun vs H Q E h => by
    obtain ⟨x, dx, vs', _, _, O, om, ds, _, hl, _⟩ := h
    exact hl
  refine F.ok S len fun cdv A outer s H vs Q E hr h => ?_
  obtain ⟨t, p, sm⟩ := hb cdv A outer s H E hr
  obtain ⟨x, dx, vs', rfl, hsl, h⟩ := h
  refine ⟨_, pss_re (C := w.cl c) p, x, dx, ?_, hsl, body_ok (E := fun _ _ _ => False) sm (fun _ _ _ _ z => z) hl (noX_hold h)⟩
  exact start_get (by rfl)
end

/-! ### C(..) -/
def mkF (c : Nat) (f : Fn) (xs : List D) : Option Vl := match f (some (.ins c [])) xs with
  | .ret (.non, false) (some (.ins c' fs)) => if c' = c then (allS fs).map fun ds => (.obj c ds, false) else none
  | _ => none
/-- the class c, its __init__ -/
structure MkOk (P : Program) (wo : World) (K : PySem.W.Frag) (mg : Str → Option Value) (base : Heap) (w : Wd) (c n j : Nat) (f : Fn) : Prop where
  ex : ∃ g fd ps, ps.length = n + 1 ∧ Mk K (w.cl c) g ∧ FnOk P wo K mg base CX0 j g fd ps (spIn w c (n + 1) f) ∧ Binds K fd ps []
section
variable {w : Wd} {W : WX} {X : Cx} {pos p : Pos} {e : Expr} {es : List Expr} {mr : MA} {x : Str} {c n k : Nat} {fn : Fn}
theorem make_core {O : Av} {H : Hp} {xs : List D} {vs : List V} {z : Vl} {Q : VK} (dm : Dm O H) (hl : xs.length = n) (e : mkF c fn xs = some z) (rs : RepL w O H xs vs) (g : Go w O H z Q) :
    ∀ x dx, H x = none → H dx = none → dx ≠ x → spIn w c (n + 1) fn (V.ref x :: vs) (upd (upd H dx (.own x)) x (.ins (w.cl c) dx [])) (fun v H2 => v = .non ∧ Q (.ref x) H2) E0 := by
  intro x dx hx hdx ne
  refine ⟨x, dx, vs, rfl, .inl ⟨upd_same, rfl⟩, ?_⟩
  generalize hH : SlX.slH (upd (upd H dx (.own x)) x (.ins (w.cl c) dx [])) x (w.cl c) dx [] = H3
  have e1 : H3 x = some (SlX.SlO x (w.cl c) dx []) := by rw [← hH]; unfold SlX.slH; rw [upd_same]
  have e2 : H3 dx = some (.xd []) := by rw [← hH]; unfold SlX.slH; rw [upd_ne ne, upd_same]
  have gr : Grow H H3 := fun a o q => by
    have n1 : a ≠ x := fun z => by rw [z, hx] at q; cases q
    have n2 : a ≠ dx := fun z => by rw [z, hdx] at q; cases q
    rw [← hH, SlX.slH_ne n1 n2, upd_ne n1, upd_ne n2]
    exact q
  have nox : ¬ O x := fun q => dm x q hx
  have nodx : ¬ ins O x dx := fun q => q.elim (fun q => dm dx q hdx) ne
  refine ⟨ins O x, some (.ins c []), xs, fun a q => ?_, by rw [List.length_cons, rs.length, hl], ⟨x, vs, rfl, .inr rfl, ⟨dx, [], e1, ne, nodx, e2, rfl⟩, RepL.step (ins_step gr hx) xs vs rs⟩, ?_⟩
  · rcases q with q | q
    · exact gr.dom (dm a q)
    · rw [q, e1]; simp
  · unfold mkF at e
    split at e
    · rename_i c' fs hf
      rw [hf]
      split at e
      · rename_i hc
        subst hc
        refine ⟨rfl, fun H' v sy rf => ?_⟩
        obtain ⟨r1, a, ha, r2⟩ := rf
        simp only [Rep] at r1
        cases (show some (V.ref x) = some (.ref a) from ha)
        refine ⟨r1, ?_⟩
        obtain ⟨dx', us, h1, h2, h3, h4, h5⟩ := r2
        cases q : allS fs with
        | none => rw [q] at e; cases e
        | some ds =>
          rw [q] at e
          cases e
          obtain ⟨ws, rfl, h6⟩ := RepO.all fs ds us h5 q
          refine g (.ref x) H' (fun a o q => sy.kept a o (fun z => ?_) (gr a o q)) ?_
          · have z2 := z.2
            simp at z2
            rw [← z2, hx] at q
            cases q
          · show Rep w O H' (.obj c' ds) (.ref x)
            simp only [Rep]
            exact ⟨x, dx', ws, rfl, h2, nox, fun q => h3 (.inl q), h1, h4, RepL.step (mono_step fun a q => .inl q) ds ws h6⟩
      · cases e
    · cases e
def mMake (c : Nat) (f : Fn) (mr : MA) : ME := mCall (mkF c f) mr
theorem sim_make {t : TA} (hr : SimA w W t mr) (hn : ∀ (ρ ρ1 : En) (xs : List D), mr ρ = .ok xs ρ1 → xs.length = n) : Sim w W (tMake (w.cl c) (spIn w c (n + 1) fn) [] E0 t) (mMake c fn mr) := fun F O ρ σ H Q hw R hh => by
  subst hw
  have key : Hold F W O σ H (RV F σ H) Q ((mr ρ).bind fun xs ρ1 => if xs.length = n then lift (mkF c fn xs) ρ1 else .stuck) := by
    unfold mMake mCall at hh
    cases q : mr ρ with
    | ok xs ρ1 =>
      rw [q] at hh
      show Hold F W O σ H (RV F σ H) Q (if xs.length = n then _ else _)
      rw [if_pos (hn ρ ρ1 xs q)]
      exact hh
    | exc x ρ1 => rw [q] at hh; exact hh
    | stuck => rw [q] at hh; exact hh
  refine hr.bind rfl R key fun xs vs ρ1 O1 H1 st1 R1 rs h1 => ?_
  split at h1
  · rename_i hl
    cases q : mkF c fn xs with
    | none => rw [q] at h1; exact h1.elim
    | some z =>
      rw [q] at h1
      intro x dx hx hdx ne
      rw [List.append_nil]
      exact make_core R1.dom hl q rs (h1.go st1 R1) x dx hx hdx ne
  · exact h1.elim
theorem pm_make (M : MkOk X.prog X.w X.K X.mg X.base w c n k fn) (hr : Room (k + 1) X.A) (hg : Gl X x) (hm : X.mg x = some (.ref (w.cl c))) (ha : PMA X w W (e :: es) mr) (hn : Len mr n) (hdb : (x == ("__debug__" : Str)) = false := by decide)
    (he : starEach (e :: es) X.env = (false, eval e X.env) :: starEach es X.env := by rfl) (hpl : (backTo pos (starEach es X.env)).any (·.1) = false := by rfl) : PM X w W (.Call (.Name x p) (e :: es) [] pos) (mMake c fn mr) := by
  obtain ⟨g, fd, ps, hl, M, F, hb⟩ := M.ex
  obtain ⟨ta, pa, sa⟩ := ha
  exact ⟨_, pe_make M F hr hg hm hb .nil pass0 pa hdb he hpl, sim_make sa fun ρ ρ1 xs q => hn ρ ρ1 xs q⟩
/-- cls(..), cls a name that holds the class -/
def mMakeL (i c : Nat) (f : Fn) (mr : MA) : ME := fun ρ => match ρ[i]? with
  | some (.val (.cls c')) => if c' = c then mMake c f mr ρ else .stuck
  | _ => .stuck
def tMakeL (i : Nat) (C : Addr) (t : TE) : TE := fun σ H Q => σ[i]? = some (some (.ref C)) ∧ t σ H Q
theorem pe_makeL {i : Nat} {C f : Addr} {fd : FuncData} {ps : List Str} {sp : Sp} {E : XK} {t : TA} (M : Mk X.K C f) (F : FnOk X.prog X.w X.K X.mg X.base CX0 k f fd ps sp) (hr : Room (k + 1) X.A) (hN : X.N[i]? = some x) (hv : Vis X.env.scope x) (hb : Binds X.K fd ps []) (hx : Passes CX0 X E) (ha : PA X (e :: es) t)
    (hdb : (x == ("__debug__" : Str)) = false) (hcd : (x == ("__classdict__" : Str)) = false) (he : starEach (e :: es) X.env = (false, eval e X.env) :: starEach es X.env) (hpl : (backTo pos (starEach es X.env)).any (·.1) = false) :
    PE X (.Call (.Name x p) (e :: es) [] pos) (tMakeL i C (tMake C sp [] E t)) := by
  refine ⟨fun pins s σ H Q I hw => ?_⟩
  obtain ⟨hs, ht⟩ := hw
  refine wpAny_Call_Name_kw (thn ((pe_var (pos := p) hN hv hdb hcd).run pins s σ H (fun v H1 => v = .ref C ∧ H1 = H) I ⟨.ref C, hs, rfl, rfl⟩) fun u s1 hz => ?_)
  obtain ⟨v, H1, I1, r1, e1, e2⟩ := hz
  subst e1
  subst e2
  obtain rfl : u = Value.ref C := r1
  refine PySem.W.callWith_K (h₀ := X.base) I.ok.mod.kin M.kp (thn (ha.run pos pins s1 σ _ _ I1 ht) fun us s2 hz => ?_) he hpl
  obtain ⟨vs, H2, I2, r, q⟩ := hz
  exact ⟨I2.kIn, run_make M F hr hb .nil hx I2 r q⟩
theorem pm_makeL {i : Nat} (M : MkOk X.prog X.w X.K X.mg X.base w c n k fn) (hr : Room (k + 1) X.A) (ha : PMA X w W (e :: es) mr) (hn : Len mr n) (hN : X.N[i]? = some x := by rfl) (hv : Vis X.env.scope x := by first | exact Or.inl rfl | exact Or.inr (Or.inl rfl) | exact Or.inr (Or.inr rfl)) (hdb : (x == ("__debug__" : Str)) = false := by decide)
    (hcd : (x == ("__classdict__" : Str)) = false := by decide) (he : starEach (e :: es) X.env = (false, eval e X.env) :: starEach es X.env := by rfl) (hpl : (backTo pos (starEach es X.env)).any (·.1) = false := by rfl) : PM X w W (.Call (.Name x p) (e :: es) [] pos) (mMakeL i c fn mr) := by
  obtain ⟨g, fd, ps, hl, M, FO, hb⟩ := M.ex
  obtain ⟨ta, pa, sa⟩ := ha
  refine ⟨_, pe_makeL M FO hr hN hv hb pass0 pa hdb hcd he hpl, fun F O ρ σ H Q hw R hh => ?_⟩
  subst hw
  unfold mMakeL at hh
  split at hh
  · rename_i c' q
    split at hh
    · rename_i hc
      subst hc
      obtain ⟨v, e1, e2⟩ := R.slot i _ q
      simp only [Rep] at e2
      subst e2
      exact ⟨e1, sim_make sa (fun ρ ρ1 xs q => hn ρ ρ1 xs q) F O ρ σ H Q rfl R hh⟩
    · exact hh.elim
  · exact hh.elim

/-! ### C.m(..), m a classmethod -/
structure CmOk (w : Wd) (c : Nat) (f : Str) (g : Addr) : Prop where
  ex : ∃ mc p, ClX.CRead w.K (w.cl c) mc ∧ ClX.CMet w.K (w.cl c) mc f p g
def mCm (c : Nat) (f : Fn) (mr : MA) : ME := mCall (fun xs => fnN f (.cls c :: xs)) mr
theorem pe_cmeth0 {C q g : Addr} {mc : Value} {sp : Sp} {E : XK} {o : Expr} {m : Str} {apos : Pos} {ta : TE} {pl : Sem Bool} (he : PE X o ta) (r : ClX.CRead X.K C mc) (cm : ClX.CMet X.K C mc m q g) (F : FnR X.prog X.w X.K X.mg X.base CX0 k g sp) (hr : Room k X.A) (hx : Passes CX0 X E)
    (ht : eval (.Call (.Attribute o m apos) [] [] pos) X.env = (do
      let ov ← eval o X.env
      standAt apos.atName
      let (f, first) ← holding [ov] (getMethod ov m pl)
      callWith pos f first (backTo pos (starEach [] X.env)) (backToKw pos (keywordEach [] X.env))) := by rfl) :
    PE X (.Call (.Attribute o m apos) [] [] pos) (ClX.tCMeth C sp E ta tNil) := by
  refine ⟨fun pins s σ H Q I hw => ?_⟩
  refine PySem.W.methodCall_KW (pl := pl) (thn (he.run pins s σ H _ I hw) fun u s1 hz => ?_) ht
  obtain ⟨y, H1, I1, rx, ex, q2⟩ := hz
  subst ex
  obtain rfl : u = Value.ref C := rx
  refine ClX.getmethcm_ok I1 r cm fun s2 I2 => ?_
  exact PySem.W.callWith_M0 ⟨ClX.pin_at I2, I2.kIn⟩ cm.fi (ClX.run_cm F hr hx I2 .nil q2)
theorem sim_cm {t : TA} (hr : SimA w W t mr) (hn : ∀ (ρ ρ1 : En) (xs : List D), mr ρ = .ok xs ρ1 → xs.length = n) : Sim w W (ClX.tCMeth (w.cl c) (spOf w (n + 1) fn) E0 (tC (.ref (w.cl c))) t) (mCm c fn mr) := fun F O ρ σ H Q hw R hh => by
  subst hw
  refine ⟨rfl, ?_⟩
  have key : Hold F W O σ H (RV F σ H) Q ((mr ρ).bind fun xs ρ1 => if xs.length = n then lift (fnN fn (.cls c :: xs)) ρ1 else .stuck) := by
    unfold mCm mCall at hh
    cases q : mr ρ with
    | ok xs ρ1 =>
      rw [q] at hh
      show Hold F W O σ H (RV F σ H) Q (if xs.length = n then _ else _)
      rw [if_pos (hn ρ ρ1 xs q)]
      exact hh
    | exc x ρ1 => rw [q] at hh; exact hh
    | stuck => rw [q] at hh; exact hh
  refine hr.bind rfl R key fun xs vs ρ1 O1 H1 st1 R1 rs h1 => ?_
  split at h1
  · rename_i hl
    cases q : fnN fn (.cls c :: xs) with
    | none => rw [q] at h1; exact h1.elim
    | some z =>
      rw [q] at h1
      exact sp_of R1.dom (by simp [hl]) q (by simp only [RepL, Rep]; exact ⟨_, vs, rfl, rfl, rs⟩) (h1.go st1 R1)
  · exact h1.elim
theorem pm_cm0 {g : Addr} {o m : Str} {apos po : Pos} {pl : Sem Bool} (hK : w.K = X.K) (hp : CmOk w c m g) (F : MthOk X.prog X.w X.K X.mg X.base w g 1 k fn) (hr : Room k X.A) (hg : Gl X o) (hm : X.mg o = some (.ref (w.cl c))) (hd : (o == ("__debug__" : Str)) = false := by decide)
    (ht : eval (.Call (.Attribute (.Name o po) m apos) [] [] pos) X.env = (do
      let ov ← eval (.Name o po) X.env
      standAt apos.atName
      let (f, first) ← holding [ov] (getMethod ov m pl)
      callWith pos f first (backTo pos (starEach [] X.env)) (backToKw pos (keywordEach [] X.env))) := by rfl) : PM X w W (.Call (.Attribute (.Name o po) m apos) [] [] pos) (mCm c fn mNil) := by
  obtain ⟨mc, p, r, cm⟩ := hp.ex
  rw [hK] at r cm
  exact ⟨_, pe_cmeth0 (pl := pl) (pe_glob (v := .ref (w.cl c)) hg hm rfl hd) r cm F hr pass0 ht, sim_cm sima_nil fun ρ ρ1 xs q => by cases q; rfl⟩
theorem pm_cm {g : Addr} {o m : Str} {apos po : Pos} {pl : Sem Bool} (hK : w.K = X.K) (hp : CmOk w c m g) (F : MthOk X.prog X.w X.K X.mg X.base w g (n + 1) k fn) (hr : Room k X.A) (hg : Gl X o) (hm : X.mg o = some (.ref (w.cl c))) (ha : PMA X w W (e :: es) mr) (hn : Len mr n) (hd : (o == ("__debug__" : Str)) = false := by decide)
    (hst : starEach (e :: es) X.env = (false, eval e X.env) :: starEach es X.env := by rfl) (hpl : (backTo pos (starEach es X.env)).any (·.1) = false := by rfl)
    (ht : eval (.Call (.Attribute (.Name o po) m apos) (e :: es) [] pos) X.env = (do
      let ov ← eval (.Name o po) X.env
      standAt apos.atName
      let (f, first) ← holding [ov] (getMethod ov m pl)
      callWith pos f first (backTo pos (starEach (e :: es) X.env)) (backToKw pos (keywordEach [] X.env))) := by rfl) : PM X w W (.Call (.Attribute (.Name o po) m apos) (e :: es) [] pos) (mCm c fn mr) := by
  obtain ⟨mc, p, r, cm⟩ := hp.ex
  rw [hK] at r cm
  obtain ⟨ta, pa, sa⟩ := ha
  exact ⟨_, ClX.pe_cmeth (pl := pl) (pe_glob (v := .ref (w.cl c)) hg hm rfl hd) r cm F hr pass0 pa hst hpl ht, sim_cm sa fun ρ ρ1 xs q => hn ρ ρ1 xs q⟩
end
end PM

namespace PM
open PySem PySem.Spec PyProof.Rows L2

/-! ### x == (), x != () -/
def rEq0 (K : PySem.W.Frag) : R2 := fun x y H Q => ∃ a b xs, x = .ref a ∧ y = .ref b ∧ SqT K H a xs ∧ SqT K H b [] ∧ Q (.bl xs.isEmpty) H
def eq0 : D → D → Option Vl
  | .tup xs, .tup [] => some (dB xs.isEmpty)
  | _, _ => none
section
variable {w : Wd} {W : WX} {X : Cx} {pos p : Pos} {a b e : Expr} {ma mb m : ME} {mr : MA}
theorem op_eq0 (hu : X.A.units < cLine) : OpR X (compareOp .Eq) (rEq0 X.K) := by
  intro pins s σ H x y v u Q I rx ry h
  obtain ⟨l, b, xs, rfl, rfl, h1, h2, q⟩ := h
  cases (show v = Value.ref l from rx)
  cases (show u = Value.ref b from ry)
  obtain ⟨its, rv, t1, z1⟩ := I.tuple h1
  obtain ⟨its2, rv2, t2, z2⟩ := I.tuple h2
  cases rv2
  refine SeqAt.RcAt.tuples (e := fun _ => true) (show s.heap.IsTuple l its.toArray from t1) (show s.heap.IsTuple b #[] from t2) hu (fun j j1 j2 => absurd j2 (by simp)) X.prog X.w _ _ ?_
  refine ⟨.bl xs.isEmpty, H, I, ?_, q⟩
  have hl := rv.length
  show Value.bool _ = Value.bool _
  congr 1
  cases xs with
  | nil => cases rv; rfl
  | cons x xs => cases rv; rfl
theorem o2_eq0 : Op2 w (rEq0 w.K) eq0 := fun O H x y z vx vy Q dm e hx hy k => by
  unfold eq0 at e
  split at e
  · rename_i xs
    cases e
    simp only [Rep] at hx hy
    obtain ⟨a, vs, rfl, h1, h2⟩ := hx
    obtain ⟨b, us, rfl, h3, h4⟩ := hy
    simp only [RepL] at h4
    subst h4
    refine ⟨a, b, vs, rfl, rfl, sq_of_rep h1, sq_of_rep h3, ?_⟩
    have e : vs.isEmpty = xs.isEmpty := by
      have := h2.length
      cases vs <;> cases xs <;> simp_all
    rw [e]
    exact k.bl
  · cases e
theorem pmt_eq0 {k : Nat} (hK : w.K = X.K) (hr : Room k X.A) (ha : PM X w W a ma) (hb : PM X w W b mb) : PMT X w W (.Compare a [.Eq] [b] pos) (mTest (mOp2 eq0 ma mb)) := pmt_cmp (op_eq0 hr.units0) (hK ▸ o2_eq0) ha hb (nomark _)
theorem pm_eq0 {k : Nat} (hK : w.K = X.K) (hr : Room k X.A) (ha : PM X w W a ma) (hb : PM X w W b mb) : PM X w W (.Compare a [.Eq] [b] pos) (mOp2 eq0 ma mb) := pm_cmp (op_eq0 hr.units0) (hK ▸ o2_eq0) ha hb (nomark _)

/-! ### a, b = x, y -/
def mPar (i j : Nat) (mr : MA) : MS := fun ρ => (mr ρ).bind fun xs ρ1 => match xs with
  | [x, y] => nxt ((setV i x ρ1).bind fun ρ2 => setV j y ρ2)
  | _ => .stuck
theorem pms_par {i j : Nat} {x y : Str} {px py pt : Pos} {kt k2 pt2} (hc : X.calm = true) (hN : X.N.Nodup) (hi : X.N[i]? = some x) (hj : X.N[j]? = some y) (hij : i ≠ j) (hx : X.env.scope.names.lookup x = some .local) (hy : X.env.scope.names.lookup y = some .local) (ha : PMA X w W [a, b] mr)
    (hw : swappedStores [.Tuple [.Name x px, .Name y py] kt pt] (.Tuple [a, b] k2 pt2) X.env = pure (some [x, y])) (hs : swapsWithSole [.Tuple [.Name x px, .Name y py] kt pt] (.Tuple [a, b] k2 pt2) pos.line X.env = pure false := by rfl) :
    PMS X w W (.Assign [.Tuple [.Name x px, .Name y py] kt pt] (.Tuple [a, b] k2 pt2) pos) (mPar i j mr) := by
  obtain ⟨t, pa, sa⟩ := ha
  refine ⟨_, ps_par hc hN hi hj hij hx hy pa hw hs, fun F O ρ σ H E hw R hh => ?_⟩
  subst hw
  refine sa.bindS rfl R hh fun xs vs ρ1 O1 H1 st1 R1 rs h1 => ?_
  split at h1
  · rename_i d1 d2
    simp only [RepL] at rs
    obtain ⟨v, _, rfl, r1, u, _, rfl, r2, rfl⟩ := rs
    cases q1 : setV i d1 ρ1 with
    | none => rw [q1] at h1; exact h1.elim
    | some ρ2 =>
      rw [q1] at h1
      have h1 : HoldS F W O1 H1 E (nxt (setV j d2 ρ2)) := h1
      cases q2 : setV j d2 ρ2 with
      | none => rw [q2] at h1; exact h1.elim
      | some ρ3 =>
        rw [q2] at h1
        exact ⟨v, u, rfl, h1 O1 _ H1 (Step.refl _ _) (setV_rel (setV_rel R1 r1 q1) r2 q2)⟩
  · exact h1.elim

/-! ### t[::-1] -/
theorem rev_places (n : Nat) : Builtin.Slice.slicePlaces ((n : Int) - 1) (-1) (-1) = n := by
  unfold Builtin.Slice.slicePlaces
  have h1 : ¬ ((-1 : Int) > 0) := by omega
  have h2 : (-(-1) : Int) = 1 := by omega
  simp only [h1, if_false, h2, Int.ediv_one]
  split <;> omega
theorem rev_take (xs : List Value) : ∀ k : Nat, k ≤ xs.length → (List.range k).filterMap (fun (m : Nat) => xs[((xs.length : Int) - 1 + (m : Int) * (-1)).toNat]?) = xs.reverse.take k
  | 0, _ => by simp
  | k + 1, h => by
    have q : ((xs.length : Int) - 1 + (k : Int) * (-1)).toNat = xs.length - 1 - k := by omega
    have h2 : xs.length - 1 - k < xs.length := by omega
    rw [List.range_succ, List.filterMap_append, rev_take xs k (by omega), List.take_add_one, List.getElem?_reverse (by omega)]
    simp only [List.filterMap_cons, List.filterMap_nil, q]
    rw [List.getElem?_eq_getElem h2]
    rfl
theorem rev_pick (xs : List Value) : ((List.range xs.toArray.size).filterMap fun (m : Nat) => xs.toArray[((xs.toArray.size : Int) - 1 + (m : Int) * (-1)).toNat]?).toArray = xs.reverse.toArray := by
  have := rev_take xs xs.length (Nat.le_refl _)
  rw [List.take_of_length_le (by simp)] at this
  simp only [List.size_toArray, List.getElem?_toArray]
  rw [this]
section
variable {prog : Program} {wo : World} {A : Around} {E : Value → Shared → Prop} {s : Shared}
theorem applied_rev {sl : Addr} {n : Nat} {vs : Value} {Q : Int × Int × Nat → Shared → Prop} (hs : s.heap.IsSliceOf sl .none .none vs) (ps : IsPart vs (some (-1))) (h : Q ((n : Int) - 1, -1, n) s) : wpAny (model prog wo) A (Builtin.Slice.sliceApplied (.ref sl) (pure (n : Int))) Q E s := by
  obtain ⟨os, hos, hcs, hds⟩ := id hs
  unfold Builtin.Slice.sliceApplied Builtin.Slice.sliceFields
  refine wpAny_bind (wpAny_bind (wpAny_field hos hds (x := .none) rfl (wpAny_bind (wpAny_field hos hds (x := .none) rfl (wpAny_bind (wpAny_field hos hds (x := vs) rfl (wpAny_pure ?_)))))))
  refine wpAny_bind (HT.slicePart_ ps ?_)
  show wpAny _ _ (if ((-1 : Int) == 0) = true then _ else _) _ _ s
  rw [if_neg (by decide)]
  refine wpAny_bind (slicePart_none (wpAny_bind (slicePart_none (wpAny_bind (wpAny_pure ?_)))))
  show wpAny _ _ (pure ((n : Int) - 1, (-1 : Int), Builtin.Slice.slicePlaces ((n : Int) - 1) (-1) (-1))) _ _ s
  rw [rev_places]
  exact wpAny_pure h
theorem getItem_rev {t sl : Addr} {items : List Value} {vs : Value} {Q : Value → Shared → Prop} (ht : IsTup s.heap t items.toArray) (hs : s.heap.IsSliceOf sl .none .none vs) (ps : IsPart vs (some (-1)))
    (h : Q (.ref s.heap.objs.size) { s with heap := s.heap.push { cls := .type "tuple", data := .seq items.reverse.toArray } }) (hsz : items.length ≤ sizeLine) : wpAny (model prog wo) A (getItem (.ref t) (.ref sl)) Q E s := by
  have fits : sizeOk (.seq items.reverse.toArray) := by
    show items.reverse.toArray.size ≤ sizeLine
    rw [List.size_toArray, List.length_reverse]
    exact hsz
  obtain ⟨os, hos, hcs, hds⟩ := id hs
  have hTs : s.TypeIs (.ref sl) "slice" := ⟨os, hos, hcs⟩
  unfold getItem
  try with_reducible refine wpAny_holding ?_
  first | refine wpAny_bind (wpAny_pure ?_) | skip
  refine wpAny_bind (wpAny_sequenceKey ht.typeIs (by decide) ?_)
  refine wpAny_bind (wpAny_callSpecial?_slot (name := Str.ofString "__getitem__") ht.typeIs PyProof.Rows.slot_tuple_getitem
    (wpAny_call_entry PyProof.Rows.slot_tuple_getitem ht.typeIs entry_tuple_getitem ?_ (args_tuple_getitem _ _)))
  show wpAny _ _ (Builtin.Tuple.tupleItemsOf (.ref t) >>= _) _ _ s
  refine wpAny_bind (tupleItemsOf_ ht ?_)
  refine wpAny_bind (wpAny_typeOf hTs ?_)
  rw [if_pos (by decide)]
  refine wpAny_bind (applied_rev hs ps ?_)
  have no : ¬ (((items.toArray.size : Int) - 1 == 0 && (-1 : Int) == 1 && items.toArray.size == items.toArray.size) = true) := by simp
  show wpAny _ _ (if ((items.toArray.size : Int) - 1 == 0 && (-1 : Int) == 1 && items.toArray.size == items.toArray.size) = true then _ else _) _ _ s
  rw [if_neg no, rev_pick]
  first
    | exact wpAny_bind (m := Builtin.Tuple.tupleExact _) (wpAny_newObj_type (wpAny_pure ⟨_, rfl, wpAny_pure h⟩) fits)
    | exact wpAny_bind (m := Builtin.Tuple.tupleExact _) (wpAny_newObj_type (wpAny_bind (wpAny_pure (wpAny_pure ⟨_, rfl, wpAny_pure h⟩))) fits)
    | exact wpAny_bind (wpAny_bind (m := Builtin.Tuple.tupleExact _) (wpAny_newObj_type (wpAny_pure (wpAny_pure ⟨_, rfl, wpAny_pure h⟩)) fits))
    | exact wpAny_bind (wpAny_bind (m := Builtin.Tuple.tupleExact _) (wpAny_newObj_type (wpAny_pure ⟨_, rfl, wpAny_pure h⟩) fits))
end
def tRevT (K : PySem.W.Frag) (te : TE) : TE := tUn (fun x H1 Q => ∃ a xs, x = .ref a ∧ SqT K H1 a xs ∧ ∀ p, H1 p = none → Q (.ref p) (upd H1 p (.tup xs.reverse))) te
theorem pe_revT {te : TE} {k : Nat} {p1 p2 p3 : Pos} (he : PE X e te) : PE X (.Subscript e (.Slice none none (some (.UnaryOp .USub (.Constant (.int 1) k p1) p2)) p3) pos) (tRevT X.K te) := by
  refine ⟨fun pins s σ H Q I hw => ?_⟩
  refine Subscript_ (thn (he.run pins s σ H _ I hw) fun v s1 hz => ?_)
  obtain ⟨x, H1, I1, r1, a, xs, ex, hx, q⟩ := hz
  subst ex
  cases (show v = Value.ref a from r1)
  have hst : PO X (some (.UnaryOp .USub (.Constant (.int 1) k p1) p2)) (tPart (tUn (rU fun i => .int (-i)) (tC (.int 1)))) := po_some (pe_un un_neg pe_int)
  refine wpAny_Slice (thn (po_none.run pins s1 σ H1 (fun o H2 => o = none ∧ H2 = H1) I1 ⟨rfl, rfl⟩) fun vl s2 hz => ?_)
  obtain ⟨l, H2, I2, pl, el, e2⟩ := hz
  subst el e2
  refine thn (po_none.run pins s2 σ H2 (fun o H3 => o = none ∧ H3 = H2) I2 ⟨rfl, rfl⟩) fun vu s3 hz => ?_
  obtain ⟨u, H3, I3, pu, eu, e3⟩ := hz
  subst eu e3
  refine thn (hst.run pins s3 σ H3 (fun o H4 => o = some (-1) ∧ H4 = H3) I3 ⟨1, rfl, -1, rfl, rfl, rfl⟩) fun vs s4 hz => ?_
  obtain ⟨o, H4, I4, ps, eo, e4⟩ := hz
  subst eo e4
  cases pl
  cases pu
  have I5 : Inv X pins σ H4 { s4 with heap := s4.heap.push { cls := .type "slice", data := .fields #[.none, .none, vs] } } := I4.kept (t' := s4.toks) fun b ob q => Heap.get?_push_of_some _ q
  obtain ⟨its, r, ht, hz⟩ := I5.tuple hx
  have hlen := r.length
  show wpAny (model X.prog X.w) X.A (subscriptTail e (.Slice none none (some (.UnaryOp .USub (.Constant (.int 1) k p1) p2)) p3) (.ref a) (.ref s4.heap.objs.size)) (EP X pins σ Q) X.xe { s4 with heap := s4.heap.push { cls := .type "slice", data := .fields #[.none, .none, vs] } }
  refine tail_any (ops := [.ref a, .ref s4.heap.objs.size]) ht.typeIs (PyProof.Rows.slot_tuple_getitem.lookup) ?_ (by with_unfolding_all rfl)
  refine getItem_rev ht (Heap.IsSliceOf.new _ .none .none vs) ps ?_ (by omega)
  refine ⟨.ref _, _, I5.laid (t' := s4.toks) (o := .tup xs.reverse) (fun b ob q => Heap.get?_push_of_some _ q) (Nat.le_refl _) ?_, rfl, q _ (I5.hok.fresh (Nat.le_refl _))⟩
  exact ⟨by rw [List.length_reverse]; exact hz, its.reverse, r.reverse, ⟨_, Heap.get?_push_size _ rfl, rfl, _, rfl⟩⟩
theorem RepL.rev {O : Av} {H : Hp} : ∀ {ds : List D} {vs : List V}, RepL w O H ds vs → RepL w O H ds.reverse vs.reverse
  | [], vs, h => by
    simp only [RepL] at h
    subst h
    simp [RepL]
  | d :: ds, vs, h => by
    simp only [RepL] at h
    obtain ⟨v, vs', rfl, h1, h2⟩ := h
    rw [List.reverse_cons, List.reverse_cons]
    exact RepL.append (RepL.rev h2) (by simp only [RepL]; exact ⟨v, [], rfl, h1, rfl⟩)
def revT : D → Option Vl
  | .tup xs => some (.tup xs.reverse, false)
  | _ => none
theorem pm_revT {k : Nat} {p1 p2 p3 : Pos} (hK : w.K = X.K) (he : PM X w W e m) : PM X w W (.Subscript e (.Slice none none (some (.UnaryOp .USub (.Constant (.int 1) k p1) p2)) p3) pos) (mOp1 revT m) := by
  obtain ⟨te, pe, se⟩ := he
  refine ⟨_, pe_revT pe, sim_op1 (fun O H x z vx Q dm e hx kk => ?_) se⟩
  cases x with
  | tup xs =>
    cases e
    simp only [Rep] at hx
    obtain ⟨a, vs, rfl, h1, h2⟩ := hx
    exact ⟨a, vs, rfl, hK ▸ sq_of_rep h1, fun p hp => kk.newT dm h2.rev hp⟩
  | _ => cases e

/-! ### d[k], d a dict of the module -/
def kdF (tab : Str → Option D) : D → Option Vl
  | .str z => (tab z).map fun d => (d, false)
  | _ => none
def KdOk (X : Cx) (w : Wd) (x : Str) (tab : Str → Option D) : Prop := ∃ a, X.mg x = some (.ref a) ∧ ∀ z d, tab z = some d → ∃ v, KDct X.K X.w a z v ∧ ∀ O H, Rep w O H d v
theorem pm_kd {x : Str} {tab : Str → Option D} (hd : KdOk X w x tab) (hg : Gl X x) (hb : PM X w W b mb) (hs : PlainIx b := by exact fun _ _ => rfl) (hdb : (x == ("__debug__" : Str)) = false := by decide) : PM X w W (.Subscript (.Name x p) b pos) (mOp1 (kdF tab) mb) := by
  obtain ⟨tb, pb, sb⟩ := hb
  obtain ⟨a, hm, ht⟩ := hd
  refine ⟨_, pe_ix ix_kdict (pe_glob (v := .ref a) hg hm rfl hdb) pb hs, fun F O ρ σ H Q hw R hh => ?_⟩
  subst hw
  show tb σ H _
  refine sb.bind rfl R hh fun y u ρ1 O1 H1 st1 R1 ry h1 => ?_
  cases e : kdF tab y.1 with
  | none => rw [e] at h1; exact h1.elim
  | some z =>
    rw [e] at h1
    unfold kdF at e
    split at e
    · rename_i s ey
      rw [ey] at ry
      simp only [Rep] at ry
      cases q : tab s with
      | none => rw [q] at e; cases e
      | some d =>
        rw [q] at e
        cases e
        obtain ⟨v, kd, rp⟩ := ht s d q
        exact ⟨a, s, v, rfl, ry, kd, (h1.go st1 R1).val (rp _ _)⟩
    · cases e
end
end PM

/-! enumerate(tuple) -/
namespace PM
open PySem PySem.Spec PyProof.Rows L2
theorem enum_new {v : Value} {o : Obj} {G : Heap → Prop} (B : Begins v o G) :
    Meets (Builtin.«enumerate.__new__» ⟨[.type "enumerate", v], []⟩) (fun _ R s => G s.heap ∧
      R (.ok (.ret (.ref (s.heap.push o).objs.size))) { s with heap := (s.heap.push o).push { cls := .type "enumerate", data := .fields #[.none, .bool false, .ref s.heap.objs.size, rawInt 0, .none, .none] } }) :=
  .of_wp fun prog w A R s h => by
    obtain ⟨hp, g, d, tk, os⟩ := s; obtain ⟨h1, h⟩ := h
    have hsub := sub_enumerate
    have q1 : ∀ {A' : Around} {E : Value → Shared → Prop} {Q : Value → Shared → Prop}, Q (.ref hp.objs.size) ⟨hp.push o, g, d, tk, os⟩ → wpAny (model prog w) A' (pyIter v) Q E ⟨hp, g, d, tk, os⟩ :=
      fun q => B.iter prog w _ _ ⟨hp, g, d, tk, os⟩ _ h1 q
    wp_walk using q1
    refine wpAny_stack_any fun st => wpAny_pure ?_
    split
    · rename_i c _ _ _ _ _
      cases (c == Value.type "enumerate")
      · wp_walk using q1
        exact ⟨_, rfl, h⟩
      · wp_walk using q1
        exact ⟨_, rfl, h⟩
    · wp_walk using q1
      exact ⟨_, rfl, h⟩
section
variable {prog : Program} {w : World} {A : Around} {E : Value → Shared → Prop} {s : Shared}
theorem enum_call {v : Value} {o : Obj} {G : Heap → Prop} {Q : Value → Shared → Prop} (B : Begins v o G) (h1 : G s.heap)
    (h : ∀ h', IsEnum h' (s.heap.objs.size + 1) s.heap.objs.size 0 .none → h'.get? s.heap.objs.size = some o → (∀ b o, s.heap.get? b = some o → h'.get? b = some o) → Q (.ref (s.heap.objs.size + 1)) { s with heap := h' }) :
    wpAny (model prog w) A (call (.type "enumerate") [v]) Q E s := by
  refine callType_new F.called_enumerate (by decide) (F.typeCall_enumerate_1 _) (F.newCall_enumerate_1 _) (fun obj => F.args_object_init_2 obj _) F.entry_enumerate_new (enum_new B) ⟨h1, ?_⟩
  have hz : (s.heap.push o).objs.size = s.heap.objs.size + 1 := Heap.size_push ..
  show _ ∧ _
  rw [hz]
  have he : IsEnum ((s.heap.push o).push { cls := .type "enumerate", data := .fields #[.none, .bool false, .ref s.heap.objs.size, rawInt 0, .none, .none] }) (s.heap.objs.size + 1) s.heap.objs.size 0 .none := by
    have := Heap.get?_push_size (s.heap.push o) (o := { cls := .type "enumerate", data := .fields #[.none, .bool false, .ref s.heap.objs.size, rawInt 0, .none, .none] }) rfl
    rw [hz] at this; exact this
  exact ⟨⟨_, he, rfl⟩, h _ he (Heap.get?_push_of_some _ (Heap.get?_push_size _ B.free)) fun b o x => Heap.get?_push_of_some _ (Heap.get?_push_of_some _ x)⟩
end
/-- the tuple at a, each item in a new pair -/
def IteT (K : PySem.W.Frag) (a : Addr) : It :=
  ⟨fun i H => ∃ (xs : List V) (x : V), SqT K H a xs ∧ xs[i]? = some x, fun i H v H' => ∃ T x, v = .ref T ∧ H T = none ∧ H' = upd H T (.tup [.int (i : Nat), x]) ∧ ∀ xs, SqT K H a xs → xs[i]? = some x, fun i H => ∃ xs : List V, SqT K H a xs ∧ xs.length = i⟩
theorem turn_enumT {P : Program} {w : World} {K : PySem.W.Frag} {elts : List Expr} {kk : Nat} {tpos : Pos} (a e it : Addr) :
    Turn P w K (.Tuple elts kk tpos) (IteT K a) [e, it] e (fun i h => (∃ old, IsEnum h e it ((i : Nat) : Int) old) ∧ h.IsTupleIter it a i ∧ e ≠ it ∧ e ≠ a ∧ it ≠ a) where
  mem := by simp
  obj := fun i h st b hb => by
    obtain ⟨⟨old, he⟩, ⟨o, ho, hc, hd⟩, _⟩ := st
    have e' : b = e ∨ b = it := by simpa using hb
    rcases e' with z | z
    · rw [z]; exact ⟨_, he, fun v q => nomatch q⟩
    · rw [z]; exact ⟨o, ho, fun v q => by rw [hd] at q; cases q⟩
  keep := fun i h h' st k => let ⟨⟨old, he⟩, hi, hne⟩ := st; ⟨⟨old, k e (by simp) _ he⟩, hi.at fun o q => k it (by simp) o q, hne⟩
  item := by
    intro X hP hw hK hc i pins s σ H E I hf st hg
    subst hP hw hK
    obtain ⟨⟨old, he⟩, hit, hne, hea, hia⟩ := st
    obtain ⟨xs, x, hq, hx⟩ := hg
    obtain ⟨its, rv, p, hz⟩ := I.tuple hq
    obtain ⟨u, hu, ru⟩ := rv.get hx
    have hel : e < s.heap.objs.size := Heap.lt_size he
    have hil : it < s.heap.objs.size := by obtain ⟨_, q, _⟩ := hit; exact Heap.lt_size q
    have hlt : i < its.toArray.size := by
      rw [List.size_toArray]
      exact (List.getElem?_eq_some_iff.mp hu).1
    refine wpAny_pyNext_enum_itemD (Draws.tuple (A := X.A.in1) (I.ok.hd hc) it a (Ne.symm hia) its.toArray) he ⟨hit, show s.heap.IsTuple a its.toArray from p⟩ hlt hne (by simp [hne, hea]) fun x' h' tk hx' ho hst' hT hsz hk => ?_
    have ex : x' = u := by
      have hx' : its.toArray[i]? = some x' := hx'
      rw [List.getElem?_toArray, hu] at hx'
      exact (Option.some.inj hx').symm
    subst ex
    refine ⟨_, rfl, wpAny_letOwnedTupleGo_enum (s := { s with heap := h', toks := tk + 1 }) ho fun h'' he' sb => ?_⟩
    have hT2 : h''.get? s.heap.objs.size = some { cls := .type "tuple", data := .seq #[.int i tk, x'] } := (sb.2 _ (Nat.ne_of_gt hel)).trans hT
    have new : ObjOk X.prog X.w (upd H s.heap.objs.size (.tup [.int (i : Nat), x])) h'' s.heap.objs.size (.tup [.int (i : Nat), x]) :=
      ⟨by show 2 ≤ sizeLine; decide, [.int i tk, x'], .cons ⟨_, rfl⟩ (.cons ru .nil), ⟨_, hT2, rfl, _, rfl⟩⟩
    have I1 : Inv X pins σ (upd H s.heap.objs.size (.tup [.int (i : Nat), x])) { s with heap := h'', toks := tk + 1 } :=
      I.turnedNew (ch := [e, it]) (fun b ob hb q => (sb.2 b (fun z => hb (by simp [z]))).trans (hk b ob (fun z => hb (by simp [z])) (fun z => hb (by simp [z])) q)) hf (Nat.le_refl _) new
    refine ⟨.ref s.heap.objs.size, _, I1, rfl, ⟨_, x, rfl, I.hok.fresh (Nat.le_refl _), rfl, fun ys hy => by rw [I.tuple_inj hy hq]; exact hx⟩, ⟨⟨x', ?_⟩, hst'.1.at fun o q => (sb.2 it (Ne.symm hne)).trans q, hne, hea, hia⟩, fun b hb => ?_⟩
    · have e1 : ((i + 1 : Nat) : Int) = (i : Int) + 1 := by omega
      rw [e1]; exact he'
    · have hb' : b < s.heap.objs.size := by
        have e' : b = e ∨ b = it := by simpa using hb
        rcases e' with z | z
        · rw [z]; exact hel
        · rw [z]; exact hil
      rw [upd_ne (Nat.ne_of_lt hb')]
      exact (hf b hb).1
  done := by
    intro X hP hw hK hc i pins s σ H E I hf st hg
    subst hP hw hK
    obtain ⟨⟨old, he⟩, hit, hne, hea, hia⟩ := st
    obtain ⟨xs, hq, hx⟩ := hg
    obtain ⟨its, rv, p, hz⟩ := I.tuple hq
    obtain ⟨f0, f1, f2, f3, f4, f5⟩ := hf it (by simp)
    have hl := rv.length
    have en : i = its.toArray.size := by rw [List.size_toArray]; omega
    rw [en] at hit
    exact wpAny_pyNext_enum_endD (Draws.tuple (A := X.A.in1) (I.ok.hd hc) it a (Ne.symm hia) its.toArray) he ⟨hit, show s.heap.IsTuple a its.toArray from p⟩ fun h' eb => ⟨rfl, I.turned (t' := s.toks) (fun b o hb q => eb b o hb q) f0 f1 f3 f4 f5⟩
  self := fun A i s Q E st h => let ⟨⟨_, he⟩, _⟩ := st; wpAny_pyIter_enum he h
def iEnumT (K : PySem.W.Frag) (ta : TA) : TI := fun σ H R => ta σ H fun vs H1 => ∃ a xs, vs = [.ref a] ∧ SqT K H1 a xs ∧ R (IteT K a) H1
theorem pi_enumT {X : Cx} {e : Expr} {ta : TA} {p pos tpos : Pos} {elts : List Expr} {kk : Nat} (hg : Gl X "enumerate") (hm : X.mg "enumerate" = none) (ha : PA X [e] ta) (hs : starEach [e] X.env = [(false, eval e X.env)] := by rfl) :
    PI X (.Tuple elts kk tpos) (.Call (.Name "enumerate" p) [e] [] pos) (iEnumT X.K ta) := by
  refine ⟨fun pins s σ H R I hw => ?_⟩
  refine Call_ (ld_blt I hg hm boot_enumerate (PyProof.Rows.callWith_type1 (thn (ha.run pos pins s σ H _ I hw) fun us s1 hz => ?_) hs rfl))
  obtain ⟨vs, H1, I1, r1, a, xs, ex, hq, q⟩ := hz
  subst ex
  cases r1 with
  | cons r rr =>
    cases rr
    cases r
    obtain ⟨its, rv, p', hz⟩ := I1.tuple hq
    refine enum_call (begins_tuple a its.toArray) (show s1.heap.IsTuple a its.toArray from p') fun h' he hit hk => wpAny_pyIter_enum he ?_
    have I2 : Inv X pins σ H1 { s1 with heap := h' } := I1.kept (t' := s1.toks) hk
    have al : a < s1.heap.objs.size := by obtain ⟨o, ho, _⟩ := p'; exact Heap.lt_size ho
    refine ⟨s1.heap.objs.size + 1, [s1.heap.objs.size + 1, s1.heap.objs.size], _, _, H1, rfl, I2, turn_enumT a (s1.heap.objs.size + 1) s1.heap.objs.size, ⟨⟨.none, he⟩, ⟨_, hit, rfl, rfl⟩, Nat.succ_ne_self _, Nat.ne_of_gt (Nat.lt_succ_of_lt al), Nat.ne_of_gt al⟩, fun b hb => ?_, q⟩
    have e' : b = s1.heap.objs.size + 1 ∨ b = s1.heap.objs.size := by simpa using hb
    have hle : s1.heap.objs.size ≤ b := by
      rcases e' with z | z
      · rw [z]; exact Nat.le_add_right _ _
      · rw [z]; exact Nat.le_refl _
    exact I1.fpOk hle (I1.hok.fresh hle)
section
variable {K : PySem.W.Frag} {a : Addr} {xs : List V}
theorem walk_enumT : Walk (IteT K a) xs.length (fun H => SqT K H a xs) (YPair (fun i => some (.int (i : Nat))) (fun i => xs[i]?)) := by
  refine ⟨fun i _ hi q => ⟨xs, xs[i], q, by simp [hi]⟩, fun _ q => ⟨xs, q, rfl⟩, fun i H v H' _ q y => ?_⟩
  obtain ⟨T, x, h1, h2, h3, h4⟩ := y
  exact ⟨T, .int (i : Nat), x, h1, h2, h3, rfl, h4 xs q⟩
end
def enumL : Nat → List D → List D
  | _, [] => []
  | i, d :: ds => .tup [.int i, d] :: enumL (i + 1) ds
theorem enumL_len : ∀ (i : Nat) (ds : List D), (enumL i ds).length = ds.length
  | _, [] => rfl
  | i, d :: ds => by simp [enumL, enumL_len (i + 1) ds]
theorem enumL_drop : ∀ (i j : Nat) (ds : List D) (d : D), ds[i]? = some d → (enumL j ds).drop i = .tup [.int (j + i : Nat), d] :: (enumL j ds).drop (i + 1)
  | _, _, [], _, e => by simp at e
  | 0, j, x :: ds, d, e => by
    simp at e
    subst e
    simp [enumL]
  | i + 1, j, x :: ds, d, e => by
    have := enumL_drop i (j + 1) ds d (by simpa using e)
    simp only [enumL, List.drop_succ_cons]
    rw [this]
    congr 4
    omega
def itE : List D → Option (List D)
  | [.tup ds] => some (enumL 0 ds)
  | _ => none
section
variable {w : Wd} {W : WX} {X : Cx} {pos p tpos : Pos} {e : Expr} {mr : MA} {elts : List Expr} {kk : Nat}
theorem pmi_enumT (hK : w.K = X.K) (hg : Gl X "enumerate") (hm : X.mg "enumerate" = none) (ha : PMA X w W [e] mr) (hs : starEach [e] X.env = [(false, eval e X.env)] := by rfl) : PMI X w W (.Tuple elts kk tpos) (.Call (.Name "enumerate" p) [e] [] pos) (mItA itE mr) := by
  obtain ⟨t, pa, sa⟩ := ha
  refine ⟨_, pi_enumT hg hm pa hs, fun F O ρ σ H R hw R0 hh => ?_⟩
  subst hw
  refine sa.bind rfl R0 hh fun xs vs ρ1 O1 H1 st R1 rs h1 => ?_
  cases q : itE xs with
  | none => rw [q] at h1; exact h1.elim
  | some zs =>
    rw [q] at h1
    unfold itE at q
    split at q
    · rename_i ds
      cases q
      obtain ⟨v, rfl, rv⟩ := repl1 rs
      simp only [Rep] at rv
      obtain ⟨a, us, rfl, h2, h3⟩ := rv
      refine ⟨a, us, rfl, hK ▸ sq_of_rep h2, h1 O1 H1 _ st R1 ?_⟩
      refine ⟨_, _, by rw [enumL_len, ← h3.length]; exact walk_enumT, fun O' H' s' => hK ▸ sq_of_rep (h2.imp (At.step s') id), fun i O' H' x H'' hi s' dm hy => ?_⟩
      obtain ⟨T, n, y, rfl, hT, rfl, e1, e2⟩ := hy
      cases e1
      rw [enumL_len] at hi
      obtain ⟨y', e3, r3⟩ := h3.get (List.getElem?_eq_getElem hi)
      have e2 : us[i]? = some y := e2
      rw [e2] at e3
      cases e3
      refine ⟨Grow.new hT, _, enumL_drop i 0 ds _ (List.getElem?_eq_getElem hi), ?_⟩
      have s2 : Step O1 H1 O' (upd H' T (.tup [.int (i : Nat), y])) := s'.trans (Grow.new hT).step
      simp only [Rep, RepL]
      refine ⟨T, [.int (i : Nat), y], rfl, .inl ⟨fun q => dm T q hT, upd_same⟩, .int (i : Nat), [y], rfl, by simp, y, [], rfl, Rep.step s2 _ _ r3, rfl⟩
    · cases q
end
end PM

/-! a comprehension over a dict: the dict is locked meanwhile -/
namespace PM
open PySem L2
/-- as before, but dicts may be locked or not -/
structure Sw (O : Av) (H H' : Hp) : Prop where
  oth : ∀ a u, ¬ O a → H a = some u → (∀ k, u ≠ .dK k) → (∀ o k, u ≠ .frz o (.dK k)) → H' a = some u
  dk : ∀ a k, ¬ O a → Rd H a (.dK k) → Rd H' a (.dK k)
section
variable {w : Wd} {O : Av} {H H' : Hp}
theorem Sw.at (s : Sw O H H') {a : Addr} {u : HO} (h : At O H a u) (h1 : ∀ k, u ≠ .dK k) (h2 : ∀ o k, u ≠ .frz o (.dK k)) : At O H' a u := ⟨h.1, s.oth a u h.1 h.2 h1 h2⟩
mutual
theorem Rep.sw (s : Sw O H H') : ∀ (d : D) (v : V), Rep w O H d v → Rep w O H' d v
  | .non, v, h => by simpa only [Rep] using h
  | .bl _, v, h => by simpa only [Rep] using h
  | .int _, v, h => by simpa only [Rep] using h
  | .str _, v, h => by simpa only [Rep] using h
  | .cls _, v, h => by simpa only [Rep] using h
  | .tup ds, v, h => by
    simp only [Rep] at h ⊢
    obtain ⟨a, vs, e, h1, h2⟩ := h
    exact ⟨a, vs, e, h1.imp (fun q => s.at q (fun _ z => nomatch z) (fun _ _ z => nomatch z)) id, RepL.sw s ds vs h2⟩
  | .lst ds, v, h => by
    simp only [Rep] at h ⊢
    obtain ⟨a, vs, e, h1, h2⟩ := h
    exact ⟨a, vs, e, s.at h1 (fun _ z => nomatch z) (fun _ _ z => nomatch z), RepL.sw s ds vs h2⟩
  | .scr ds, v, h => by
    simp only [Rep] at h ⊢
    obtain ⟨a, vs, e, h1, h2⟩ := h
    exact ⟨a, vs, e, h1.imp (fun ⟨o, q⟩ => ⟨o, s.at q (fun _ z => nomatch z) (fun _ _ z => nomatch z)⟩) id, RepL.sw s ds vs h2⟩
  | .dct ks ds, v, h => by
    simp only [Rep] at h ⊢
    obtain ⟨a, kvs, e, h1, h2, h3⟩ := h
    refine ⟨a, kvs, e, ?_, h2, RepL.sw s ds _ h3⟩
    have no : ¬ O a := h1.elim (·.1) (fun ⟨o, q⟩ => q.1)
    have rd : Rd H a (.dK kvs) := h1.imp (·.2) (fun ⟨o, q⟩ => ⟨o, q.2⟩)
    exact (s.dk a kvs no rd).imp (fun q => ⟨no, q⟩) (fun ⟨o, q⟩ => ⟨o, no, q⟩)
  | .obj c fs, v, h => by
    simp only [Rep] at h ⊢
    obtain ⟨a, dx, vs, e, n, o1, o2, h1, h2, h3⟩ := h
    exact ⟨a, dx, vs, e, n, o1, o2, s.oth _ _ o1 h1 (fun _ z => nomatch z) (fun _ _ z => nomatch z), s.oth _ _ o2 h2 (fun _ z => nomatch z) (fun _ _ z => nomatch z), RepL.sw s fs vs h3⟩
  | .exn c ns ds, v, h => by
    simp only [Rep] at h ⊢
    obtain ⟨a, vs, e, h1, h2⟩ := h
    refine ⟨a, vs, e, h1.imp (fun q => ⟨q.1, s.at q.2 (fun _ z => nomatch z) (fun _ _ z => nomatch z)⟩) (fun ⟨d, q1, q2⟩ => ⟨d, s.at q1 (fun _ z => nomatch z) (fun _ _ z => nomatch z), s.at q2 (fun _ z => nomatch z) (fun _ _ z => nomatch z)⟩), RepL.sw s ds vs h2⟩
theorem RepL.sw (s : Sw O H H') : ∀ (ds : List D) (vs : List V), RepL w O H ds vs → RepL w O H' ds vs
  | [], vs, h => by simpa only [RepL] using h
  | d :: ds, vs, h => by
    simp only [RepL] at h ⊢
    obtain ⟨v, vs', e, h1, h2⟩ := h
    exact ⟨v, vs', e, Rep.sw s d v h1, RepL.sw s ds vs' h2⟩
end
theorem RepO.sw (s : Sw O H H') : ∀ (ds : List (Option D)) (vs : List (Option V)), RepO w O H ds vs → RepO w O H' ds vs
  | [], vs, h => h
  | none :: ds, vs, ⟨vs', e, h⟩ => ⟨vs', e, RepO.sw s ds vs' h⟩
  | some d :: ds, vs, ⟨v, vs', e, h1, h2⟩ => ⟨v, vs', e, Rep.sw s d v h1, RepO.sw s ds vs' h2⟩
theorem MuAt.sw (s : Sw O H H') {a : Addr} (e : H' a = H a) : ∀ {m : Mu}, MuAt w O H a m → MuAt w O H' a m
  | .lst ds, ⟨vs, h1, h2⟩ => ⟨vs, e.trans h1, RepL.sw s ds vs h2⟩
  | .dct ks ds, ⟨kvs, h1, h2, h3⟩ => ⟨kvs, e.trans h1, h2, RepL.sw s ds _ h3⟩
  | .ins c fs, ⟨dx, vs, h1, h2, h3, h4, h5⟩ => ⟨dx, vs, e.trans h1, h2, h3, s.oth _ _ h3 h4 (fun _ z => nomatch z) (fun _ _ z => nomatch z), RepO.sw s fs vs h5⟩
end
section
variable {F : Fr} {O : Av} {ρ : En} {σ : St} {H : Hp} {d : Addr} {kvs : List (Key × V)} {od : Obj}
theorem sw_lock (hd : H d = some (.dK kvs)) : Sw O H (upd H d (.frz od (.dK kvs))) := by
  refine ⟨fun a u no h n1 n2 => ?_, fun a k no h => ?_⟩
  · rw [upd_ne fun z => by rw [z, hd] at h; cases h; exact n1 _ rfl]
    exact h
  · by_cases z : a = d
    · subst z
      rcases h with h | ⟨o, h⟩
      · rw [hd] at h
        cases h
        exact .inr ⟨od, upd_same⟩
      · rw [hd] at h
        cases h
    · exact h.imp (fun q => by rw [upd_ne z]; exact q) (fun ⟨o, q⟩ => ⟨o, by rw [upd_ne z]; exact q⟩)
theorem sw_unlock (hd : H d = some (.frz od (.dK kvs))) : Sw O H (upd H d (.dK kvs)) := by
  refine ⟨fun a u no h n1 n2 => ?_, fun a k no h => ?_⟩
  · rw [upd_ne fun z => by rw [z, hd] at h; cases h; exact n2 _ _ rfl]
    exact h
  · by_cases z : a = d
    · subst z
      rcases h with h | ⟨o, h⟩
      · rw [hd] at h
        cases h
      · rw [hd] at h
        cases h
        exact .inl upd_same
    · exact h.imp (fun q => by rw [upd_ne z]; exact q) (fun ⟨o, q⟩ => ⟨o, by rw [upd_ne z]; exact q⟩)
/-- the frame in which d is locked -/
def Fr.lock (F : Fr) (d : Addr) (o : HO) : Fr := ⟨F.w, F.B, F.Io, upd F.He d o⟩
theorem upd_dom {a b : Addr} {o : HO} (h : H a ≠ none) : upd H b o a ≠ none := by
  by_cases z : a = b
  · rw [z, upd_same]
    simp
  · rw [upd_ne z]
    exact h
theorem Rel.lock (R : Rel F O ρ σ H) (no : ¬ O d) (hd : H d = some (.dK kvs)) : Rel (F.lock d (.frz od (.dK kvs))) O ρ σ (upd H d (.frz od (.dK kvs))) := by
  refine ⟨R.len, R.b0, fun a h => upd_dom (R.bh a h), R.ib, fun a h => upd_dom (R.dom a h), fun a h => ?_, fun a o h n => ?_, fun i s e => ?_, R.dist⟩
  · by_cases z : a = d
    · rw [z, upd_same]
      simp
    · have h : upd F.He d (.frz od (.dK kvs)) a ≠ none := h
      rw [upd_ne z] at h ⊢
      exact R.doh a h
  · have h : upd F.He d (.frz od (.dK kvs)) a = some o := h
    by_cases z : a = d
    · subst z
      rw [upd_same] at h ⊢
      exact h
    · rw [upd_ne z] at h ⊢
      exact R.keep a o h n
  · have q := R.slot i s e
    cases s with
    | non => trivial
    | val x =>
      obtain ⟨v, q1, q2⟩ := q
      exact ⟨v, q1, Rep.sw (sw_lock hd) _ _ q2⟩
    | own m =>
      obtain ⟨b, q1, q2, q3, q4⟩ := q
      have ne : b ≠ d := fun z => no (z ▸ q2)
      exact ⟨b, q1, q2, (upd_ne ne).trans q3, MuAt.sw (sw_lock hd) (upd_ne ne) q4⟩
    | io m =>
      obtain ⟨b, q1, q2, q4⟩ := q
      have ne : b ≠ d := fun z => no (z ▸ R.b0 b (R.ib i b q2))
      exact ⟨b, q1, q2, MuAt.sw (sw_lock hd) (upd_ne ne) q4⟩
theorem Rel.unlock (R0 : Rel F O ρ σ H) (no : ¬ O d) (hd : H d = some (.dK kvs)) {O' : Av} {ρ' : En} {σ' : St} {H' : Hp} (R : Rel (F.lock d (.frz od (.dK kvs))) O' ρ' σ' H') (no' : ¬ O' d) (hd' : H' d = some (.frz od (.dK kvs))) : Rel F O' ρ' σ' (upd H' d (.dK kvs)) := by
  have nio : ∀ i, ¬ F.Io i d := fun i q => no (R0.b0 d (R0.ib i d q))
  refine ⟨R.len, R.b0, R0.bh, R0.ib, fun a h => upd_dom (R.dom a h), fun a h => ?_, fun a o h n => ?_, fun i s e => ?_, R.dist⟩
  · by_cases z : a = d
    · rw [z, upd_same]
      simp
    · rw [upd_ne z]
      exact R.doh a (by show upd F.He d _ a ≠ none; rw [upd_ne z]; exact h)
  · by_cases z : a = d
    · subst z
      have := R0.keep a o h n
      rw [hd] at this
      rw [upd_same]
      exact this
    · rw [upd_ne z]
      exact R.keep a o (by show upd F.He d _ a = some o; rw [upd_ne z]; exact h) n
  · have q := R.slot i s e
    cases s with
    | non => trivial
    | val x =>
      obtain ⟨v, q1, q2⟩ := q
      exact ⟨v, q1, Rep.sw (sw_unlock hd') _ _ q2⟩
    | own m =>
      obtain ⟨b, q1, q2, q3, q4⟩ := q
      have ne : b ≠ d := fun z => no' (z ▸ q2)
      have q3 : upd F.He d (.frz od (.dK kvs)) b = none := q3
      rw [upd_ne ne] at q3
      exact ⟨b, q1, q2, q3, MuAt.sw (sw_unlock hd') (upd_ne ne) q4⟩
    | io m =>
      obtain ⟨b, q1, q2, q4⟩ := q
      have ne : b ≠ d := fun z => no' (z ▸ R.b0 b (R.ib i b q2))
      exact ⟨b, q1, q2, MuAt.sw (sw_unlock hd') (upd_ne ne) q4⟩
theorem VlAt.unlock {w : Wd} {O' : Av} {ρ' : En} {H' : Hp} {v : V} {d : Addr} {kvs : List (Key × V)} {od : Obj} (no' : ¬ O' d) (hd' : H' d = some (.frz od (.dK kvs))) : ∀ {x : Vl}, VlAt w σ (upd H d (.frz od (.dK kvs))) ρ' O' H' v x → VlAt w σ H ρ' O' (upd H' d (.dK kvs)) v x
  | (y, false), h => Rep.sw (sw_unlock hd') _ _ h
  | (y, true), ⟨a, m, e1, e2, e3, e4, e5, e6⟩ => by
    have ne : a ≠ d := fun z => no' (z ▸ e3)
    rw [upd_ne ne] at e2
    exact ⟨a, m, e1, e2, e3, e4, MuAt.sw (sw_unlock hd') (upd_ne ne) e5, e6⟩
theorem step_unlock {O' : Av} {H' : Hp} (no : ¬ O d) (hd : H d = some (.dK kvs)) (s : Step O (upd H d (.frz od (.dK kvs))) O' H') : Step O H O' (upd H' d (.dK kvs)) := by
  refine ⟨fun a h => ?_, fun a o n h => ?_, fun a h => ?_⟩
  · rcases s.sub a h with q | q
    · exact .inl q
    · refine .inr ?_
      by_cases z : a = d
      · rw [z, upd_same] at q
        cases q
      · rw [upd_ne z] at q
        exact q
  · by_cases z : a = d
    · subst z
      rw [hd] at h
      rw [upd_same]
      exact h
    · rw [upd_ne z]
      exact s.kept a o n (by rw [upd_ne z]; exact h)
  · exact upd_dom (s.dom a (upd_dom h))
end
/-! ### either way -/
def tOrLock (t : TE) : TE := fun σ H Q => t σ H Q ∨ tLockE t σ H Q
theorem pe_orLock {X : Cx} {e : Expr} {t : TE} (h : PE X e t) : PE X e (tOrLock t) := ⟨fun pins s σ H Q I q => q.elim (h.run pins s σ H Q I) ((pe_lock h).run pins s σ H Q I)⟩
theorem ps_orLock {X : Cx} {st : Stmt} {t : TE} {i : Nat} (h : PS X st (tAsg t (gName i))) : PS X st (tAsg (tOrLock t) (gName i)) := by
  refine ⟨fun pins s σ H E I q => ?_⟩
  rcases q with q | ⟨d, u, hd, mu, q⟩
  · exact h.run pins s σ H E I q
  · exact (ps_lock h).run pins s σ H E I ⟨d, u, hd, mu, fun od => q od⟩
def noExc {α : Type} : Rs α → Prop
  | .exc _ _ => False
  | _ => True
/-- the dict in slot i is locked here -/
def LockAt (O : Av) (ρ : En) (σ : St) (H : Hp) (i : Nat) : Prop := ∃ a o kvs ks ds, ρ[i]? = some (.val (.dct ks ds)) ∧ σ[i]? = some (some (.ref a)) ∧ ¬ O a ∧ H a = some (.frz o (.dK kvs)) ∧ keysD ks (kvs.map (·.1))
theorem sim_orLock {w : Wd} {W : WX} {te : TE} {m : ME} {i : Nat} (hl : ∀ (F : Fr) (O : Av) (ρ : En) (σ : St) (H : Hp) (Q : VK), F.w = w → Rel F O ρ σ H → LockAt O ρ σ H i → Hold F W O σ H (RV F σ H) Q (m ρ) → te σ H Q)
    (hx : ∀ ρ, noExc (m ρ)) (hs : ∀ ρ, m ρ ≠ .stuck → ∃ ks ds, ρ[i]? = some (.val (.dct ks ds))) : Sim w W (tOrLock te) m := fun F O ρ σ H Q hw R hh => by
  have ns : m ρ ≠ .stuck := fun z => by
    rw [z] at hh
    exact hh
  obtain ⟨ks, ds, e⟩ := hs ρ ns
  obtain ⟨v, e2, q⟩ := R.slot i _ e
  simp only [Rep] at q
  obtain ⟨d, kvs, rfl, h1, h2, h3⟩ := q
  rcases h1 with ⟨no, h1⟩ | ⟨o, no, h1⟩
  · refine .inr ⟨d, .dK kvs, h1, trivial, fun od => ?_⟩
    refine hl (F.lock d (.frz od (.dK kvs))) O ρ σ _ _ hw (R.lock no h1) ⟨d, od, kvs, ks, ds, e, e2, no, upd_same, h2⟩ ?_
    cases q : m ρ with
    | stuck => exact absurd q ns
    | exc x ρ' =>
      have := hx ρ
      rw [q] at this
      exact this.elim
    | ok x ρ' =>
      rw [q] at hh
      intro O' H' b st R' rv
      have hd' := st.kept d _ no upd_same
      have no' : ¬ O' d := st.off no (by rw [upd_same]; simp)
      exact ⟨hd', hh O' _ b (step_unlock no h1 st) (R.unlock no h1 R' no' hd') (VlAt.unlock no' hd' rv)⟩
  · exact .inl (hl F O ρ σ H Q hw R ⟨d, o, kvs, ks, ds, e, e2, no, h1, h2⟩ hh)
/-- the keys of the dict in slot i -/
def mKeys (i : Nat) : MI := fun ρ => match ρ[i]? with
  | some (.val (.dct ks _)) => .ok ks ρ
  | _ => .stuck
theorem mLcLoop_noExc {g : MG} {vs : List Nat} {mt : MT} {me : ME} : ∀ (ds acc : List D) (ρ : En), noExc (mLcLoop g vs mt me ds acc ρ)
  | [], acc, ρ => trivial
  | d :: ds, acc, ρ => by
    unfold mLcLoop
    split
    · trivial
    · split
      · split
        · split
          · split
            · exact mLcLoop_noExc ds _ _
            · trivial
          · trivial
        · exact mLcLoop_noExc ds _ _
      · trivial
theorem keysD_at : ∀ {ks : List D} {kk : List Key} {i : Nat} {k : Key}, keysD ks kk → kk[i]? = some k → ∃ d, ks.drop i = d :: ks.drop (i + 1) ∧ keyD d = some k
  | [], kk, i, k, h, e => by
    have h : kk = [] := h
    subst h
    cases e
  | d :: ks, kk, 0, k, h, e => by
    obtain ⟨k1, ks1, rfl, e1, h⟩ := h
    cases e
    exact ⟨d, rfl, e1⟩
  | d :: ks, kk, i + 1, k, h, e => by
    obtain ⟨k1, ks1, rfl, e1, h⟩ := h
    obtain ⟨d', h1, h2⟩ := keysD_at h (show ks1[i]? = some k from e)
    exact ⟨d', h1, h2⟩
theorem keysD_len' : ∀ {ks : List D} {kk : List Key}, keysD ks kk → kk.length = ks.length
  | [], kk, h => by
    have h : kk = [] := h
    subst h
    rfl
  | k :: ks, kk, h => by
    obtain ⟨k1, ks1, rfl, e1, h⟩ := h
    simp [keysD_len' h]
theorem key_repd {w : Wd} {O : Av} {H : Hp} {y : D} {k : Key} (h : keyD y = some k) : Rep w O H y (kV k) := by
  cases y <;> simp only [keyD] at h <;> first | (cases h; simp only [Rep]; rfl) | cases h
theorem itok_keys {w : Wd} {O1 : Av} {H1 : Hp} {d : Addr} {o : Obj} {kvs : List (Key × V)} {ks : List D} (hd : H1 d = some (.frz o (.dK kvs))) (no : ¬ O1 d) (hk : keysD ks (kvs.map (·.1))) : ItOk w ks O1 H1 (Itk d o kvs) := by
  have hl := keysD_len' hk
  rw [List.length_map] at hl
  refine ⟨_, _, hl ▸ walk_keys, fun O' H' st => st.kept d _ no hd, fun i O' H' x H'' hi st dm y => ?_⟩
  obtain ⟨rfl, k, v, e1, rfl⟩ := y
  obtain ⟨d', h1, h2⟩ := keysD_at hk (i := i) (k := k) (by rw [List.getElem?_map, e1]; rfl)
  exact ⟨Grow.refl _, d', h1, key_repd h2⟩
section
variable {w : Wd} {W : WX} {X : Cx} {pos spos py pd : Pos} {elt tg : Expr} {ifs : List Expr} {scope : Scope} {own : List (Str × Nat)} {g : MG} {js : List Nat} {mt : MT} {me : ME} {x : Str}
theorem sim_lcD {vs : List Nat} {gg : TG} {tt : TT} {te : TE} (i : Nat) (sg : SimG w gg g js) (stt : SimT w W0 tt mt) (se : Sim w W0 te me) (hj : ∀ j ∈ js, j ∈ vs) : Sim w W (tOrLock (tLc (iKeys (tVar i)) gg tt te vs)) (mLc (mKeys i) vs g mt me) := by
  refine sim_orLock (i := i) (fun F O ρ σ H Q hw R lk hh => ?_) (fun ρ => ?_) (fun ρ h => ?_)
  · obtain ⟨a, o, kvs, ks, ds, e1, e2, no, h1, h2⟩ := lk
    refine sim_lc1 (fun k hk => ?_) sg stt se hj hw R hh
    unfold mKeys at hk
    rw [e1] at hk
    exact ⟨.ref a, e2, a, o, rfl, .inl ⟨kvs, h1, hk O H _ (Step.refl _ _) R (itok_keys h1 no h2)⟩⟩
  · unfold mLc mKeys
    split
    · rename_i ks ds e
      show noExc ((mLcLoop g vs mt me ks [] (wipeE ρ vs)).bind _)
      have h := mLcLoop_noExc (g := g) (vs := vs) (mt := mt) (me := me) ks [] (wipeE ρ vs)
      cases q : mLcLoop g vs mt me ks [] (wipeE ρ vs) with
      | ok a b => trivial
      | stuck => trivial
      | exc a b =>
        rw [q] at h
        exact h.elim
    · trivial
  · unfold mLc mKeys at h
    split at h
    · rename_i ks ds e
      exact ⟨ks, ds, e⟩
    · exact absurd rfl h
theorem pm_lcD (i : Nat) (hc : X.calm = true) (hNd : X.N.Nodup) (ok : BlkOk X.N X.env.scope scope own) (hj : ∀ j ∈ js, j ∈ own.map (·.2))
    (hg : ∀ (s : Shared) (H : Hp) (C : Addr) (cl : List (Str × Addr)) (fp : List Addr), PMG (X.blk s H scope (compEnvC scope cl C X.env) fp) w tg g js) (ht : ∀ (s : Shared) (H : Hp) (C : Addr) (cl : List (Str × Addr)) (fp : List Addr), PMTs (X.blk s H scope (compEnvC scope cl C X.env) fp) w W0 ifs mt)
    (he : ∀ (s : Shared) (H : Hp) (C : Addr) (cl : List (Str × Addr)) (fp : List Addr), PM (X.blk s H scope (compEnvC scope cl C X.env) fp) w W0 elt me) (hN : X.N[i]? = some x := by rfl) (hv : Vis X.env.scope x := by first | exact Or.inl rfl | exact Or.inr (Or.inl rfl) | exact Or.inr (Or.inr rfl)) (hd : (x == ("__debug__" : Str)) = false := by decide)
    (hcd : (x == ("__classdict__" : Str)) = false := by decide) (hs : ∀ y, foldedSetIterable (.Name x pd) X.env y = pure y := by intro _; rfl) :
    PM X w W (.ListComp elt [⟨tg, .Name x pd, ifs, 0⟩] scope pos) (mLc (mKeys i) (own.map (·.2)) g mt me) :=
  ⟨_, pe_orLock (pe_lc hc hNd (pi_keys (pe_var hN hv hd hcd)) ok (fun s H C cl fp => (hg s H C cl fp).pe) (fun s H C cl fp => (ht s H C cl fp).pe) (fun s H C cl fp => (he s H C cl fp).pe) hs), sim_lcD i simg_of simt_of sim_of hj⟩
theorem ps_lcD (i : Nat) {j : Nat} {y : Str} (hc : X.calm = true) (hNd : X.N.Nodup) (hy : X.N[j]? = some y) (hyl : X.env.scope.names.lookup y = some .local) (hsw : swapsWith (.ListComp elt [⟨tg, .Name x pd, ifs, 0⟩] scope pos) (some (.Name y py)) spos.line X.env = pure true) (ok : BlkOk X.N X.env.scope scope own) (hj : ∀ j ∈ js, j ∈ own.map (·.2))
    (hg : ∀ (s : Shared) (H : Hp) (C : Addr) (cl : List (Str × Addr)) (fp : List Addr), PMG (X.blk s H scope (compEnvC scope cl C X.env) fp) w tg g js) (ht : ∀ (s : Shared) (H : Hp) (C : Addr) (cl : List (Str × Addr)) (fp : List Addr), PMTs (X.blk s H scope (compEnvC scope cl C X.env) fp) w W0 ifs mt)
    (he : ∀ (s : Shared) (H : Hp) (C : Addr) (cl : List (Str × Addr)) (fp : List Addr), PM (X.blk s H scope (compEnvC scope cl C X.env) fp) w W0 elt me) (hN : X.N[i]? = some x := by rfl) (hv : Vis X.env.scope x := by first | exact Or.inl rfl | exact Or.inr (Or.inl rfl) | exact Or.inr (Or.inr rfl)) (hd : (x == ("__debug__" : Str)) = false := by decide)
    (hcd : (x == ("__classdict__" : Str)) = false := by decide) (hs : ∀ y, foldedSetIterable (.Name x pd) X.env y = pure y := by intro _; rfl) :
    ∃ te, PS X (.Assign [.Name y py] (.ListComp elt [⟨tg, .Name x pd, ifs, 0⟩] scope pos) spos) (tAsg te (gName j)) ∧ Sim w W te (mLc (mKeys i) (own.map (·.2)) g mt me) :=
  ⟨_, ps_orLock (ps_setLc hc hNd hy hyl hsw (pi_keys (pe_var hN hv hd hcd)) ok (fun s H C cl fp => (hg s H C cl fp).pe) (fun s H C cl fp => (ht s H C cl fp).pe) (fun s H C cl fp => (he s H C cl fp).pe) hs), sim_lcD i simg_of simt_of sim_of hj⟩
end
end PM

/-! the law's end where its promise holds under callers below whom no repr runs; the head's facts -/
namespace PM
open PySem PySem.Spec PyProof.Rows L2
section
variable {P : Program} {wo : World} {K : PySem.W.Frag} {mg mb : Str → Option Value} {Z : CXT} {k : Nat} {fa a : Addr} {fd : FuncData} {x : Str} {sp : Sp} {s1 : Shared} {us : List Value} {ns : List Int}
theorem law_callG (KX : K.In s1.heap) (hns : s1.heap.Ns mainGlobals mg) (hb : s1.heap.Ns builtinsNs mb) (hbb : ∀ x : Str, x ≠ "__name__" → mb x = bootBuiltins x) (hlim : s1.heap.NoLimit) (hg : s1.gens = #[])
    (ha : s1.heap.get? a = some { cls := .type "list", data := .seq us.toArray }) (hi : IntsAre us ns) (hl : ns.length ≤ sizeLine) (hr : Room k callerA) (hgu : callerA.guards = some [])
    (F : ∀ b0 : Heap, K.In b0 → b0.Ns mainGlobals mg → FnG P wo K mg b0 Z k fa fd [x] sp) (hbind : ∀ (s : Shared) (u : Value), BindsTo s fd ⟨[u], []⟩ [(x, u)])
    (hsp : ∀ H : Hp, Only H → SqL K H a (ns.map V.int) → sp [.ref a] H (fun v _ => v = .bl true) fun _ _ _ => False) (hZ : ∀ H e s', Z [] H s1 (fun _ _ _ => False) e s' → False) :
    codeAny (model P wo) callerA (.call (.ref fa) ⟨[.ref a], []⟩) (fun r s' => r = .ok (.ret (.bool true)) ∧ OldK s1.heap s'.heap ∧ s'.os = s1.os ∧ AllBare s'.gens) s1 := by
  have rv := vals_ints hi
  have lenV := hi.length
  have core : ∀ G : Hp, Only G → SqL K G a (ns.map V.int) → HOk P wo G s1.heap → (∀ b, G b ≠ none → b = a) → (G a ≠ none → K.lookup a = none) →
      codeAny (model P wo) callerA (.call (.ref fa) ⟨[.ref a], []⟩) (fun r s' => r = .ok (.ret (.bool true)) ∧ OldK s1.heap s'.heap ∧ s'.os = s1.os ∧ AllBare s'.gens) s1 := fun G hO hS hok hA hKn => by
    have old : ∀ {b : Addr} {o : Obj}, s1.heap.get? b = some o → G b = none → (hidT s1.heap G).get? b = some o := fun e n => hidT_get e n
    have eqA : ∀ {b : Addr} {u : HO}, G b = some u → b = a := fun {b u} q => hA b (by rw [q]; simp)
    have noA : ∀ {b : Addr} {o : Obj} {es : Array DictEntry} {ep : Nat}, s1.heap.get? b = some o → o.data = .dict es ep → G b = none := fun {b o es ep} e d => by
      cases q : G b with
      | none => rfl
      | some u =>
        have z := eqA q
        subst z
        rw [ha] at e
        cases e
        cases (show Data.seq us.toArray _ = Data.dict es ep from d)
    have nsK : ∀ {b : Addr} {m : Str → Option Value}, s1.heap.Ns b m → (hidT s1.heap G).Ns b m := fun {b m} z => by
      obtain ⟨o, es, ep, e, d, r⟩ := z
      exact ⟨o, es, ep, old e (noA e d), d, r⟩
    have inB : K.In (hidT s1.heap G) := fun b o e => by
      refine old (KX b o e) ?_
      cases q : G b with
      | none => rfl
      | some u =>
        have z := eqA q
        subst z
        rw [hKn (by rw [q]; simp)] at e
        cases e
    have nol : (hidT s1.heap G).NoLimit := by
      obtain ⟨mc, h1, h2⟩ := hlim
      exact ⟨mc, nsK h1, h2⟩
    have e0 : Env0 P wo K mg (hidT s1.heap G) callerA [] s1 G := ⟨rfl, ⟨inB, nsK hns, ⟨mb, nsK hb, hbb⟩, nol⟩, fun b o e => of_hidT e, Nat.le_of_eq (hidT_size _ _), trivial, fun b z => absurd (show b ∈ ([] : List Addr) from z) (by simp), hok, .of_eq hg⟩
    refine codeAny_mono ((F _ inB (nsK hns)).run callerA [] s1 G ⟨[.ref a], []⟩ [.ref a] [.ref a] _ _ hgu hr e0 (hbind s1 (.ref a)) (.cons rfl .nil) (hsp G hO hS)) fun r s' h => ?_
    rcases r with e | fl
    · exact (hZ G e s' h).elim
    · cases fl with
      | next => exact h.elim
      | brk => exact h.elim
      | cont => exact h.elim
      | ret u =>
        obtain ⟨v, G', os, bare, un, hok', r', q⟩ := h
        cases (show v = .bl true from q)
        cases (show u = Value.bool true from r')
        refine ⟨rfl, OldK.of_keep fun b o e => ?_, os, bare⟩
        cases q : G b with
        | none => exact un.keep b o e q (fun z => absurd (show b ∈ ([] : List Addr) from z) (by simp)) (by simp)
        | some u =>
          rcases hO b with z | ⟨ob, xs, z⟩
          · rw [q] at z
            cases z
          · have z2 := un.frzs b ob _ z
            have e1 := (hok b _ z).1
            have e2 := (hok' b _ z2).1
            rw [e] at e1
            cases e1
            exact e2
  cases hk : K.lookup a with
  | some o =>
    have e := KX a o hk
    rw [ha] at e
    cases e
    exact core (fun _ => none) (fun _ => .inl rfl) (.inr ⟨_, us.toArray, _, hk, rfl, rfl, rfl, by rw [List.size_toArray, lenV]; exact hl, by simpa using rv⟩) (fun b u z => by cases (show (none : Option HO) = some u from z)) (fun b z => absurd rfl z) fun z => absurd rfl z
  | none =>
    have at_ : ∀ b, b = a → (fun c => if c = a then some (HO.frz { cls := .type "list", data := .seq us.toArray } (.lst (ns.map V.int))) else none) b = some (HO.frz { cls := .type "list", data := .seq us.toArray } (.lst (ns.map V.int))) := fun b e => if_pos e
    have off_ : ∀ b, b ≠ a → (fun c => if c = a then some (HO.frz { cls := .type "list", data := .seq us.toArray } (.lst (ns.map V.int))) else none) b = none := fun b e => if_neg e
    refine core (fun c => if c = a then some (HO.frz { cls := .type "list", data := .seq us.toArray } (.lst (ns.map V.int))) else none) (fun b => ?_) (.inl (.inr ⟨_, at_ a rfl⟩)) (fun b u z => ?_) (fun b z => ?_) fun _ => hk
    · by_cases e : b = a
      · exact .inr ⟨_, _, at_ b e⟩
      · exact .inl (off_ b e)
    · by_cases e : b = a
      · have z' := (at_ b e).symm.trans z
        cases z'
        subst e
        exact ⟨ha, by rw [List.length_map]; exact hl, us, _, rv, ha⟩
      · have z' := (off_ b e).symm.trans z
        cases z'
    · by_cases e : b = a
      · exact e
      · exact absurd (off_ b e) z
end
theorem walk_G {l : PySem.W.OpenLaw} {n k : Nat} {q : Program} {loose : List Str} {XP : (Str → Option Value) → Heap → Prop} {YP : World → Heap → Prop} {d : DefRec} {Z : CXT} {x : Str} (hn : l.most = some n) (hn2 : n ≤ sizeLine) (hdf : d.params.defaults = []) (hr : Room k callerA) (hgu : callerA.guards = some [])
    (F : ∀ (w : World) (mg : Str → Option Value) (fa : Addr) (h : Heap), YP w h → h.Ns mainGlobals mg → mg d.name = some (.ref fa) →
      ∃ (K : PySem.W.Frag) (fd : FuncData) (sp : Sp), K.In h ∧ (∀ (s : Shared) (u : Value), BindsTo s fd ⟨[u], []⟩ [(x, u)]) ∧
        (∀ (H : Hp) (a : Addr) (ns : List Int), ns.length ≤ n → Only H → SqL K H a (ns.map V.int) → sp [.ref a] H (fun v _ => v = .bl true) fun _ _ _ => False) ∧ ∀ b0 : Heap, K.In b0 → b0.Ns mainGlobals mg → FnG l.prog w K mg b0 Z k fa fd [x] sp)
    (hZ : ∀ (H : Hp) (s : Shared) (e : Value) (s' : Shared), Z [] H s (fun _ _ _ => False) e s' → False) : PySem.W.WalkO q loose XP YP l.row.toRowW d [] (fun f vs => PySem.call f vs) := by
  refine Att.attach_call hn hdf fun w s0 s1 mg mb fa o pm cd doc a vs ns G Y ho hd hcd hmg hobj hints hlen hg => ?_
  obtain ⟨K, fd, sp, KX, hb, hsp, hF⟩ := F w mg fa _ Y G.T.g hmg
  exact law_callG KX G.T.g G.T.b G.T.builtins G.T.nolimit hg hobj hints (Nat.le_trans hlen hn2) hr hgu hF hb (fun H hO hS => hsp H a ns hlen hO hS) fun H e s' => hZ H s1 e s'
/-- the script is data -/
theorem scr_of {w : Wd} {H : Hp} {a : Addr} {ns : List Int} (hO : Only H) (h : SqL w.K H a (ns.map V.int)) : Rep w (fun _ => False) H (.scr (ns.map D.int)) (.ref a) := by
  have rl : RepL w (fun _ => False) H (ns.map D.int) (ns.map V.int) := by
    clear h
    induction ns with
    | nil => simp [RepL]
    | cons n ns ih => simp only [List.map_cons, RepL, Rep]; exact ⟨_, _, rfl, rfl, ih⟩
  simp only [Rep]
  refine ⟨a, ns.map V.int, rfl, ?_, rl⟩
  rcases h with (h | ⟨o, h⟩) | h
  · rcases hO a with z | ⟨o, xs, z⟩
    · rw [h] at z; cases z
    · rw [h] at z; cases z
  · exact .inl ⟨o, fun q => q, h⟩
  · exact .inr h
theorem law_sp {w : Wd} {f : Fn} {H : Hp} {a : Addr} {ns : List Int} (hO : Only H) (h : SqL w.K H a (ns.map V.int)) (e : f none [.scr (ns.map D.int)] = .ret (.bl true, false) none) : spOf w 1 f [.ref a] H (fun v _ => v = .bl true) fun _ _ _ => False := by
  refine ⟨fun _ => False, none, [.scr (ns.map D.int)], fun _ z => z.elim, rfl, ?_, ?_⟩
  · show RepL w (fun _ => False) H [D.scr (ns.map D.int)] [.ref a]
    simp only [RepL]
    exact ⟨_, _, rfl, scr_of hO h, rfl⟩
  · rw [e]
    refine ⟨rfl, fun H' v _ r => ?_⟩
    have r1 := r.1
    simp only [Rep] at r1
    exact r1

/-! ### the head's facts -/
/-- a def: where it stands, its name, its qualified name, its text -/
structure DfM where
  at_ : PySem.W.Frag → Addr
  name : Str
  qual : Str
  st : Stmt
def fnM (K : PySem.W.Frag) (a : Addr) : He.FnV := match K.lookup a with
  | some ⟨_, _, .func fd, _⟩ => some (fd.name, fd.qualname, fd.params, fd.body, fd.scope, fd.globals, fd.closure, fd.defaults, fd.builtins)
  | _ => none
def DfM.val (d : DfM) : He.FnV := some (d.name, d.qual, defArgs d.st, .stmts (defBody d.st), defScope d.st, mainGlobals, [], .none, builtinsNs)
def DfM.ok (K : PySem.W.Frag) (d : DfM) : Bool := PySem.W.keepIn K (.ref (d.at_ K)) && (match K.lookup (d.at_ K) with
  | some ⟨_, _, .func fd, _⟩ => PySem.W.codeIn K fd.code d.qual
  | _ => false)
theorem DfM.fun {K : PySem.W.Frag} {d : DfM} (e : fnM K (d.at_ K) = d.val) (c : d.ok K = true) : ∃ fd, Fun K d.name d.qual d.st (d.at_ K) fd := by
  obtain ⟨kp, c2⟩ := He.ba c
  unfold fnM at e
  cases q : K.lookup (d.at_ K) with
  | none =>
    rw [q] at c2
    cases c2
  | some o =>
    obtain ⟨oc, od, dt, osl⟩ := o
    rw [q] at c2 e
    cases dt with
    | func fd =>
      obtain ⟨n1, n2, n3, n4, n5, n6, n7, n8, n9, n10, n11, n12, n13, n14, n15⟩ := fd
      have e2 : (some (n1, n2, n3, n4, n5, n6, n7, n8, n15) : He.FnV) = d.val := e
      unfold DfM.val at e2
      simp only [Option.some.injEq, Prod.mk.injEq] at e2
      obtain ⟨h1, h2, h3, h4, h5, h6, h7, h8, h9⟩ := e2
      subst h1 h2 h3 h4 h5 h6 h7 h8 h9
      exact ⟨_, fun_mk q c2 kp⟩
    | _ => cases c2
abbrev Chk : Type := PySem.W.Frag → Bool
abbrev AlM : Type := (Bool × List He.FnV) × List (Option (List (Option (Str × Int))))
def obsM (cs : List Chk) (fn : List DfM) (ts : List He.Tab) (K : PySem.W.Frag) : AlM := (((cs.all fun c => c K) && fn.all fun d => d.ok K, fn.map fun d => fnM K (d.at_ K)), ts.map fun t => He.dicW K (t.1 K))
def valM (fn : List DfM) (ts : List He.Tab) (w : World) : AlM := ((true, fn.map DfM.val), ts.map fun t => some (He.keysIn w.params t.2))
def SaysM (cs : List Chk) (fn : List DfM) (ts : List He.Tab) (w : World) (K : PySem.W.Frag) : Prop := obsM cs fn ts K = valM fn ts w
def asM (g : Addr → Option Obj) : Nat → List Addr
  | 0 => [mainGlobals, cStatics]
  | n + 1 => He.growD g (asM g n)
def obsMG (n : Nat) (cs : List Chk) (fn : List DfM) (ts : List He.Tab) (g : Addr → Option Obj) : AlM := obsM cs fn ts (He.frG g (asM g n))
def hookM (n : Nat) (cs : List Chk) (fn : List DfM) (ts : List He.Tab) : PySem.W.Hook where
  α := AlM
  obs := fun s => obsMG n cs fn ts s.heap.get?
  val := fun w => valM fn ts w
  says := fun w h => ∃ K : PySem.W.Frag, K.In h ∧ SaysM cs fn ts w K
  of := fun _ _ e => ⟨_, He.frG_in, e⟩
  keeps := fun _ _ _ ⟨K, hK, c⟩ k => ⟨K, PySem.W.Frag.In.keeps hK k, c⟩
theorem obsMG_eq {n : Nat} {cs : List Chk} {fn : List DfM} {ts : List He.Tab} {g : Addr → Option Obj} {s : Shared} (h : ∀ a, g a = s.heap.get? a) : obsMG n cs fn ts g = (hookM n cs fn ts).obs s := by
  have e : g = s.heap.get? := funext h
  rw [e] <;> rfl
section
variable {cs : List Chk} {fn : List DfM} {ts : List He.Tab} {w : World} {K : PySem.W.Frag}
theorem SaysM.fact (c : SaysM cs fn ts w K) (i : Nat) {f : Chk} (h : cs[i]? = some f := by rfl) : f K = true := by
  have c1 := (He.ba (show ((cs.all fun c => c K) && fn.all fun d => d.ok K) = true from congrArg (fun z : AlM => z.1.1) c)).1
  exact List.all_eq_true.mp c1 f (List.mem_of_getElem? h)
theorem SaysM.def_ (c : SaysM cs fn ts w K) (i : Nat) {d : DfM} (h : fn[i]? = some d := by rfl) : ∃ fd, Fun K d.name d.qual d.st (d.at_ K) fd := by
  have c2 := (He.ba (show ((cs.all fun c => c K) && fn.all fun d => d.ok K) = true from congrArg (fun z : AlM => z.1.1) c)).2
  have e : fn.map (fun d => fnM K (d.at_ K)) = fn.map DfM.val := congrArg (fun z : AlM => z.1.2) c
  have e2 : (fn.map fun d => fnM K (d.at_ K))[i]? = (fn.map DfM.val)[i]? := by rw [e]
  rw [List.getElem?_map, List.getElem?_map, h] at e2
  exact DfM.fun (Option.some.inj e2) (List.all_eq_true.mp c2 d (List.mem_of_getElem? h))
theorem SaysM.tab (c : SaysM cs fn ts w K) (i : Nat) {t : He.Tab} (h : ts[i]? = some t := by rfl) : ∃ es n, KDict K w (t.1 K) es n := by
  have e : ts.map (fun t => He.dicW K (t.1 K)) = ts.map fun t => some (He.keysIn w.params t.2) := congrArg (fun z : AlM => z.2) c
  have e2 : (ts.map fun t => He.dicW K (t.1 K))[i]? = (ts.map fun t => some (He.keysIn w.params t.2))[i]? := by rw [e]
  rw [List.getElem?_map, List.getElem?_map, h] at e2
  exact He.dicW_ok (Option.some.inj e2)
end
end PM

/-! what the head looks at, as Bools over the written part; what follows -/
namespace PM
open PySem PySem.Spec PyProof.Rows L2
open PySem.W (Frag findIn specialIn takesIn typeIn slotIn recIn)
variable {K : Frag} {h : Heap} {mg : Str → Option Value} {w : Wd}
def and_ (a b : Bool) : Bool := a && b
theorem b2 {a b : Bool} (h : (a && b) = true) : a = true ∧ b = true := Bool.and_eq_true_iff.mp h
def gloB (x : Str) : Chk := fun K => (He.Fa.glo x).ok K
def freeB (x : Str) : Chk := fun K => (He.Fa.free x).ok K
def intB (x : Str) (i : Int) : Chk := fun K => (He.Fa.int x i).ok K
def strB (x z : Str) : Chk := fun K => (He.Fa.str x z).ok K
def sclsB (C : Str) : Chk := fun K => PySem.W.plainGet K (He.ga K C) Str.empty && (PySem.W.isClsIn K (He.ga K C) && (PySem.W.plainOver K (He.ga K C) && He.eqO (findIn K (.ref (He.ga K C)) "__setattr__") (some (some (.builtin "object.__setattr__")))))
theorem sclsB_ok {C : Str} (h : sclsB C K = true) : SlX.SCls K (He.ga K C) := by
  obtain ⟨h1, h⟩ := b2 h
  obtain ⟨h2, h⟩ := b2 h
  obtain ⟨h3, h4⟩ := b2 h
  exact ⟨h1, h2, h3, He.eqO_ok h4⟩
def obB (a b : Option Bool) : Bool := decide (a = b)
def sisiB (C : Str) : Chk := fun K => He.eqO (findIn K (.ref (He.ga K C)) "__class__") (some (some (.builtin "object.__class__"))) && (He.eqO (specialIn K (.builtin "object.__class__") "__get__") (some (some (.builtin "getset_descriptor.__get__"))) &&
  (obB (takesIn K (.builtin "object.__class__")) (some true) && obB (PySem.W.mroIn K (He.ga K C) (.type "object")) (some true)))
theorem sisiB_ok {C : Str} (h : sisiB C K = true) : SlX.SIsi K (He.ga K C) := by
  obtain ⟨h1, h⟩ := b2 h
  obtain ⟨h2, h⟩ := b2 h
  obtain ⟨h3, h4⟩ := b2 h
  exact ⟨He.eqO_ok h1, He.eqO_ok h2, of_decide_eq_true h3, of_decide_eq_true h4⟩
def slotB (C f : Str) (i : Nat) : Chk := fun K => He.eqO (findIn K (.ref (He.ga K C)) f) (some (some (.ref (He.ma K (He.ga K C) f)))) && (He.eqO (specialIn K (.ref (He.ma K (He.ga K C) f)) "__get__") (some (some (.builtin "member_descriptor.__get__"))) &&
  (obB (takesIn K (.ref (He.ma K (He.ga K C) f))) (some true) && (decide (typeIn K (.ref (He.ma K (He.ga K C) f)) = some (.type "member_descriptor")) && (decide (slotIn K (He.ma K (He.ga K C) f) (He.ga K C) = some i) && decide (i < 1000)))))
theorem slotB_ok {C f : Str} {i : Nat} (h : slotB C f i K = true) : ∃ p, SlX.Slot1 K (He.ga K C) f p i := by
  obtain ⟨h1, h⟩ := b2 h
  obtain ⟨h2, h⟩ := b2 h
  obtain ⟨h3, h⟩ := b2 h
  obtain ⟨h4, h⟩ := b2 h
  obtain ⟨h5, h6⟩ := b2 h
  exact ⟨_, He.eqO_ok h1, He.eqO_ok h2, of_decide_eq_true h3, of_decide_eq_true h4, of_decide_eq_true h5, of_decide_eq_true h6⟩
/-- the first field of a record -/
def recAd (K : Frag) (p : Addr) (T : String) : Addr := match recIn K p T with
  | some (.ref g :: _) => g
  | _ => 0
def recB (K : Frag) (p : Addr) (T : String) : Bool := match recIn K p T with
  | some (.ref _ :: _) => true
  | _ => false
theorem recB_ok {p : Addr} {T : String} (h : recB K p T = true) : ∃ rest, recIn K p T = some (.ref (recAd K p T) :: rest) := by
  unfold recB at h
  unfold recAd
  split at h
  · rename_i g rest e
    rw [e]
    exact ⟨rest, rfl⟩
  · cases h
def propAt (C f : Str) (K : Frag) : Addr := recAd K (He.ma K (He.ga K C) f) "property"
def cmAt (C f : Str) (K : Frag) : Addr := recAd K (He.ma K (He.ga K C) f) "classmethod"
def metAt (C f : Str) (K : Frag) : Addr := He.ma K (He.ga K C) f
def gloAt (x : Str) (K : Frag) : Addr := He.ga K x
def propB (C f : Str) : Chk := fun K => He.eqO (findIn K (.ref (He.ga K C)) f) (some (some (.ref (He.ma K (He.ga K C) f)))) && (He.eqO (specialIn K (.ref (He.ma K (He.ga K C) f)) "__get__") (some (some (.builtin "property.__get__"))) &&
  (obB (takesIn K (.ref (He.ma K (He.ga K C) f))) (some true) && recB K (He.ma K (He.ga K C) f) "property"))
theorem propB_ok {C f : Str} {c : Nat} (hK : w.K = K) (hc : w.cl c = He.ga K C) (h : propB C f K = true) (h' : sclsB C K = true) : PropOk w c f (propAt C f K) := by
  obtain ⟨h1, h⟩ := b2 h
  obtain ⟨h2, h⟩ := b2 h
  obtain ⟨h3, h4⟩ := b2 h
  subst hK
  exact ⟨by rw [hc]; exact sclsB_ok h', He.ma w.K (He.ga w.K C) f, by rw [hc]; exact He.eqO_ok h1, He.eqO_ok h2, of_decide_eq_true h3, recB_ok h4⟩
def methB (C f : Str) : Chk := fun K => He.eqO (findIn K (.ref (He.ga K C)) f) (some (some (.ref (metAt C f K)))) && (PySem.W.isFn K (.ref (metAt C f K)) && PySem.W.keepIn K (.ref (metAt C f K)))
theorem methB_ok {C f : Str} {c : Nat} (hK : w.K = K) (hc : w.cl c = He.ga K C) (h : methB C f K = true) (h' : sclsB C K = true) : MethOk w c f (metAt C f K) := by
  obtain ⟨h1, h⟩ := b2 h
  obtain ⟨h2, h3⟩ := b2 h
  subst hK
  exact ⟨by rw [hc]; exact sclsB_ok h', by rw [hc]; exact ⟨He.eqO_ok h1, h2, h3⟩⟩
def opB (C f : Str) : Chk := fun K => PySem.W.selfFirst K (He.ga K C) && (He.eqO (findIn K (.ref (He.ga K C)) f) (some (some (.ref (metAt C f K)))) && PySem.W.isFn K (.ref (metAt C f K)))
theorem opB_ok {C f : Str} {c : Nat} (hK : w.K = K) (hc : w.cl c = He.ga K C) (h : opB C f K = true) : OpOk w c f (metAt C f K) := by
  obtain ⟨h1, h⟩ := b2 h
  obtain ⟨h2, h3⟩ := b2 h
  subst hK
  exact ⟨by rw [hc]; exact h1, by rw [hc]; exact He.eqO_ok h2, h3⟩
def eqB (C : Str) : Chk := fun K => He.eqO (findIn K (.ref (He.ga K C)) "__eq__") (some (some (.ref (metAt C "__eq__" K)))) && (PySem.W.isFn K (.ref (metAt C "__eq__" K)) && (He.eqO (findIn K (.ref (He.ga K C)) "__ne__") (some (some (.builtin "object.__ne__"))) &&
  (obB (PySem.W.mroIn K (He.ga K C) (.type "object")) (some true) && ["NoneType", "bool", "int", "str"].all fun t => PySem.W.notFirst K (He.ga K C) (.type t))))
theorem eqB_ok {C : Str} {c : Nat} (hK : w.K = K) (hc : w.cl c = He.ga K C) (h : eqB C K = true) : EqOk w c (metAt C "__eq__" K) := by
  obtain ⟨h1, h⟩ := b2 h
  obtain ⟨h2, h⟩ := b2 h
  obtain ⟨h3, h⟩ := b2 h
  obtain ⟨h4, h5⟩ := b2 h
  subst hK
  refine ⟨by rw [hc]; exact He.eqO_ok h1, h2, by rw [hc]; exact He.eqO_ok h3, by rw [hc]; exact of_decide_eq_true h4, fun t ht => ?_⟩
  rw [hc]
  exact List.all_eq_true.mp h5 t ht
def mkB (C : Str) : Chk := fun K => (He.Fa.mkr C).ok K
theorem mkB_ok {C : Str} {c : Nat} (hc : w.cl c = He.ga K C) (h : mkB C K = true) : Mk K (w.cl c) (metAt C "__init__" K) := by
  rw [hc]
  exact He.mkr_ok h
def cfB (K : Frag) (C : Addr) (m : Str) (p : Addr) : Bool := match PySem.W.findCls K (.ref C) (.type "type") m with
  | some (.get (.builtin b) (.ref p') .none (.ref C')) => decide (b = "classmethod.__get__") && (decide (p' = p) && decide (C' = C))
  | _ => false
theorem cfB_ok {C p : Addr} {m : Str} (h : cfB K C m p = true) : PySem.W.findCls K (.ref C) (.type "type") m = some (.get (.builtin "classmethod.__get__") (.ref p) .none (.ref C)) := by
  unfold cfB at h
  split at h
  · rename_i b p' C' e
    obtain ⟨h1, h⟩ := b2 h
    obtain ⟨h2, h3⟩ := b2 h
    rw [e, of_decide_eq_true h1, of_decide_eq_true h2, of_decide_eq_true h3]
  · cases h
def cmB (C m : Str) : Chk := fun K => PySem.W.readsIn K (He.ga K C) (.type "type") && (He.eqO (specialIn K (.ref (He.ga K C)) "__getattribute__") (some (some (.builtin "type.__getattribute__"))) && (cfB K (He.ga K C) m (He.ma K (He.ga K C) m) && (recB K (He.ma K (He.ga K C) m) "classmethod" && PySem.W.fnIn K (cmAt C m K))))
theorem cmB_ok {C m : Str} {c : Nat} (hK : w.K = K) (hc : w.cl c = He.ga K C) (h : cmB C m K = true) : CmOk w c m (cmAt C m K) := by
  obtain ⟨h1, h⟩ := b2 h
  obtain ⟨h2, h⟩ := b2 h
  obtain ⟨h3, h⟩ := b2 h
  obtain ⟨h4, h5⟩ := b2 h
  subst hK
  exact ⟨.type "type", He.ma w.K (He.ga w.K C) m, by rw [hc]; exact ⟨h1, He.eqO_ok h2⟩, by rw [hc]; exact ⟨cfB_ok h3, recB_ok h4, h5⟩⟩
/-- isinstance: the answers -/
def kitV (K : Frag) (t : String ⊕ Str) : Value := match t with
  | .inl n => .type n
  | .inr C => .ref (He.ga K C)
def kitB (t u : String ⊕ Str) (b : Bool) : Chk := fun K => decide (PySem.W.kitOne K (kitV K t) (kitV K u) = some b)
theorem kitB_ok {t u : String ⊕ Str} {b : Bool} (h : kitB t u b K = true) : PySem.W.kitOne K (kitV K t) (kitV K u) = some b := of_decide_eq_true h
/-- a table's values -/
def valB (x k : Str) (v : He.Dv) : Chk := fun K => He.valsB K (He.ga K x) [(k, v)]
theorem valB_ok {wo : World} {x k : Str} {v : He.Dv} (hd : ∃ es n, KDict K wo (He.ga K x) es n) (h : valB x k v K = true) : KDct K wo (He.ga K x) k (v.v K) := by
  obtain ⟨es, n, d⟩ := hd
  obtain ⟨u, e1, e2⟩ := He.valsB_ok h (q := (k, v)) (by simp)
  obtain ⟨d1, d2, d3⟩ := d
  exact ⟨es, n, u, d1, d2, e1, e2⟩
end PM

/-! in, not in; is, is not; all -/
namespace PM
open PySem PySem.Spec PyProof.Rows L2
def vF : D → V
  | .non => .non
  | .bl b => .bl b
  | .int i => .int i
  | .str x => .str x
  | _ => .non
def flD : D → Bool
  | .non => true
  | .bl _ => true
  | .int _ => true
  | .str _ => true
  | _ => false
theorem fl_rep {w : Wd} {O : Av} {H : Hp} {d : D} {v : V} (h : Rep w O H d v) (f : flD d = true) : v = vF d ∧ flatV v = true := by
  cases d <;> simp [flD] at f <;> simp only [Rep] at h <;> subst h <;> exact ⟨rfl, rfl⟩
theorem fl_repL {w : Wd} {O : Av} {H : Hp} : ∀ {ds : List D} {vs : List V}, RepL w O H ds vs → ds.all flD = true → vs = ds.map vF ∧ vs.all flatV = true
  | [], vs, h, _ => by
    simp only [RepL] at h
    subst h
    exact ⟨rfl, rfl⟩
  | d :: ds, vs, h, f => by
    simp only [RepL] at h
    obtain ⟨v, vs', rfl, h1, h2⟩ := h
    rw [List.all_cons, Bool.and_eq_true] at f
    obtain ⟨e1, g1⟩ := fl_rep h1 f.1
    obtain ⟨e2, g2⟩ := fl_repL h2 f.2
    exact ⟨by rw [e1, e2]; rfl, by rw [List.all_cons, g1, g2]; rfl⟩
def seqD : D → Option (List D)
  | .tup ds => some ds
  | .lst ds => some ds
  | .scr ds => some ds
  | _ => none
def inF (neg : Bool) (x y : D) : Option Vl := (seqD y).bind fun ds => if flD x = true ∧ ds.all flD = true then some (dB (if neg then !inV (vF x) (ds.map vF) else inV (vF x) (ds.map vF))) else none
section
variable {w : Wd} {W : WX} {X : Cx} {pos p : Pos} {a b e : Expr} {ma mb m : ME} {mr : MA}
theorem o2_in (neg : Bool) : Op2 w (rIn w.K neg) (inF neg) := fun O H x y z vx vy Q dm e hx hy k => by
  unfold inF at e
  cases q : seqD y with
  | none => rw [q] at e; cases e
  | some ds =>
    rw [q] at e
    simp only [Option.bind_some] at e
    split at e
    · rename_i hf
      cases e
      obtain ⟨e1, f1⟩ := fl_rep hx hf.1
      have at_ : ∃ c vs, vy = .ref c ∧ (SqL w.K H c vs ∨ SqT w.K H c vs) ∧ RepL w O H ds vs := by
        cases y <;> simp [seqD] at q <;> subst q <;> simp only [Rep] at hy
        · obtain ⟨c, vs, h1, h2, h3⟩ := hy
          exact ⟨c, vs, h1, .inr (sq_of_rep h2), h3⟩
        · obtain ⟨c, vs, h1, h2, h3⟩ := hy
          exact ⟨c, vs, h1, .inl (sl_of_rep h2), h3⟩
        · obtain ⟨c, vs, h1, h2, h3⟩ := hy
          exact ⟨c, vs, h1, .inl (h2.imp (fun ⟨o, z⟩ => .inr ⟨o, z.2⟩) id), h3⟩
      obtain ⟨c, vs, rfl, hs, hr⟩ := at_
      obtain ⟨e2, f2⟩ := fl_repL hr hf.2
      refine ⟨c, vs, rfl, hs, f1, f2, ?_⟩
      rw [e1, e2]
      exact k.bl
    · cases e
theorem pm_in (hK : w.K = X.K) (ha : PM X w W a ma) (hb : PM X w W b mb) (hm : behindInMarks .In b = false := by rfl) : PM X w W (.Compare a [.In] [b] pos) (mOp2 (inF false) ma mb) := pm_cmp op_in_seq (hK ▸ o2_in false) ha hb hm
theorem pm_notIn (hK : w.K = X.K) (ha : PM X w W a ma) (hb : PM X w W b mb) (hm : behindInMarks .NotIn b = false := by rfl) : PM X w W (.Compare a [.NotIn] [b] pos) (mOp2 (inF true) ma mb) := pm_cmp op_notIn_seq (hK ▸ o2_in true) ha hb hm
theorem pmt_in (hK : w.K = X.K) (ha : PM X w W a ma) (hb : PM X w W b mb) (hm : behindInMarks .In b = false := by rfl) : PMT X w W (.Compare a [.In] [b] pos) (mTest (mOp2 (inF false) ma mb)) := pmt_cmp op_in_seq (hK ▸ o2_in false) ha hb hm
theorem pmt_notIn (hK : w.K = X.K) (ha : PM X w W a ma) (hb : PM X w W b mb) (hm : behindInMarks .NotIn b = false := by rfl) : PMT X w W (.Compare a [.NotIn] [b] pos) (mTest (mOp2 (inF true) ma mb)) := pmt_cmp op_notIn_seq (hK ▸ o2_in true) ha hb hm
/-- is, is not, of bools -/
def isBlD (neg : Bool) : D → D → Option Vl
  | .bl x, .bl y => some (dB (if neg then !decide (x = y) else decide (x = y)))
  | _, _ => none
theorem o2_isB : Op2 w rIsB (isBlD false) := fun O H x y z vx vy Q dm e hx hy k => by
  cases x <;> cases y <;> simp [isBlD] at e
  subst e
  simp only [Rep] at hx hy
  exact ⟨_, _, hx, hy, k.bl⟩
theorem o2_notB : Op2 w rNotB (isBlD true) := fun O H x y z vx vy Q dm e hx hy k => by
  cases x <;> cases y <;> simp [isBlD] at e
  subst e
  simp only [Rep] at hx hy
  refine ⟨_, _, hx, hy, ?_⟩
  have kk := k.bl
  simpa using kk
theorem pm_isB (ha : PM X w W a ma) (hb : PM X w W b mb) (hm : behindInMarks .Is b = false := by rfl) : PM X w W (.Compare a [.Is] [b] pos) (mOp2 (isBlD false) ma mb) := pm_cmp op_isBl o2_isB ha hb hm
theorem pm_notB (ha : PM X w W a ma) (hb : PM X w W b mb) (hm : behindInMarks .IsNot b = false := by rfl) : PM X w W (.Compare a [.IsNot] [b] pos) (mOp2 (isBlD true) ma mb) := pm_cmp op_notBl o2_notB ha hb hm
theorem pmt_isB (ha : PM X w W a ma) (hb : PM X w W b mb) (hm : behindInMarks .Is b = false := by rfl) : PMT X w W (.Compare a [.Is] [b] pos) (mTest (mOp2 (isBlD false) ma mb)) := pmt_cmp op_isBl o2_isB ha hb hm
theorem pmt_notB (ha : PM X w W a ma) (hb : PM X w W b mb) (hm : behindInMarks .IsNot b = false := by rfl) : PMT X w W (.Compare a [.IsNot] [b] pos) (mTest (mOp2 (isBlD true) ma mb)) := pmt_cmp op_notBl o2_notB ha hb hm
end
end PM

/-! all, any of a list of bools; a tuple repeated; a list turned round -/
namespace PM
open PySem PySem.Spec PyProof.Rows L2
def blsD : List D → Option (List Bool)
  | [] => some []
  | .bl b :: ds => (blsD ds).map fun bs => b :: bs
  | _ => none
theorem bls_rep {w : Wd} {O : Av} {H : Hp} : ∀ {ds : List D} {vs : List V} {bs : List Bool}, RepL w O H ds vs → blsD ds = some bs → vs = bs.map V.bl
  | [], vs, bs, h, e => by
    simp only [RepL] at h
    cases e
    exact h
  | d :: ds, vs, bs, h, e => by
    simp only [RepL] at h
    obtain ⟨v, vs', rfl, h1, h2⟩ := h
    cases d <;> simp only [blsD] at e <;> first | (cases e; done) | skip
    cases q : blsD ds with
    | none => rw [q] at e; cases e
    | some cs =>
      rw [q] at e
      cases e
      simp only [Rep] at h1
      rw [h1, bls_rep h2 q]
      rfl
def allD (any : Bool) : D → Option Vl
  | .lst ds => (blsD ds).map fun bs => dB (if any then bs.any id else bs.all id)
  | _ => none
section
variable {w : Wd} {W : WX} {X : Cx} {pos p : Pos} {a b e : Expr} {ma mb m : ME} {mr : MA}
theorem allD_some {any : Bool} {x : D} {z : Vl} (h : allD any x = some z) : ∃ ds bs, x = .lst ds ∧ blsD ds = some bs ∧ z = dB (if any then bs.any id else bs.all id) := by
  cases x <;> simp only [allD] at h <;> first | (cases h; done) | skip
  rename_i ds
  cases q : blsD ds with
  | none => rw [q] at h; cases h
  | some bs => rw [q] at h; cases h; exact ⟨ds, bs, rfl, q, rfl⟩
theorem pm_all (hK : w.K = X.K) (hc : X.calm = true) (hg : Gl X "all") (hm : X.mg "all" = none) (ha : PMA X w W [e] mr) (he : starEach [e] X.env = (false, eval e X.env) :: starEach [] X.env := by rfl) : PM X w W (.Call (.Name "all" p) [e] [] pos) (mCall (one1 (allD false)) mr) :=
  pm_callB (cr_all hc) (fun O H xs z vs Q dm e rs k => by
    obtain ⟨x, rfl, ez⟩ := one1_some e
    obtain ⟨v, rfl, hv⟩ := repl1 rs
    obtain ⟨ds, bs, rfl, hb, rfl⟩ := allD_some ez
    simp only [Rep] at hv
    obtain ⟨c, us, rfl, h1, h2⟩ := hv
    refine ⟨c, bs, rfl, ?_, k.bl⟩
    rw [← bls_rep h2 hb, ← hK]
    exact sl_of_rep h1) hg hm (by decide +kernel) ha (by decide) (by decide) he
theorem pm_any (hK : w.K = X.K) (hc : X.calm = true) (hg : Gl X "any") (hm : X.mg "any" = none) (ha : PMA X w W [e] mr) (he : starEach [e] X.env = (false, eval e X.env) :: starEach [] X.env := by rfl) : PM X w W (.Call (.Name "any" p) [e] [] pos) (mCall (one1 (allD true)) mr) :=
  pm_callB (cr_any hc) (fun O H xs z vs Q dm e rs k => by
    obtain ⟨x, rfl, ez⟩ := one1_some e
    obtain ⟨v, rfl, hv⟩ := repl1 rs
    obtain ⟨ds, bs, rfl, hb, rfl⟩ := allD_some ez
    simp only [Rep] at hv
    obtain ⟨c, us, rfl, h1, h2⟩ := hv
    refine ⟨c, bs, rfl, ?_, k.bl⟩
    rw [← bls_rep h2 hb, ← hK]
    exact sl_of_rep h1) hg hm (by decide +kernel) ha (by decide) (by decide) he
/-- xs[::-1], xs a list -/
def revL : D → Option Vl
  | .lst xs => some (.lst xs.reverse, true)
  | _ => none
theorem pm_revL {k : Nat} {p1 p2 p3 : Pos} (hK : w.K = X.K) (he : PM X w W e m) : PM X w W (.Subscript e (.Slice none none (some (.UnaryOp .USub (.Constant (.int 1) k p1) p2)) p3) pos) (mOp1 revL m) := by
  obtain ⟨te, pe, se⟩ := he
  refine ⟨_, pe_revL pe, sim_op1 (r := fun x H1 Q => ∃ a xs, x = .ref a ∧ SqL X.K H1 a xs ∧ ∀ p, H1 p = none → Q (.ref p) (upd H1 p (.lst xs.reverse))) (fun O H x z vx Q dm e hx kk => ?_) se⟩
  cases x with
  | lst xs =>
    cases e
    simp only [Rep] at hx
    obtain ⟨a, vs, rfl, h1, h2⟩ := hx
    exact ⟨a, vs, rfl, hK ▸ sl_of_rep h1, fun p hp => kk.newL h2.rev hp⟩
  | _ => cases e
end
end PM

/-! one's own list turned round -/
namespace PM
open PySem PySem.Spec PyProof.Rows L2
section
variable {w : Wd} {W : WX} {X : Cx} {pos p : Pos} {x : Str}
def mRevO (i : Nat) : ME := fun ρ => match muOf i ρ with
  | some (_, .lst ds) => .ok (.lst ds.reverse, true) ρ
  | _ => .stuck
theorem pm_revO (i : Nat) {k : Nat} {p1 p2 p3 : Pos} (hK : w.K = X.K) (hN : X.N[i]? = some x := by rfl) (hv : Vis X.env.scope x := by first | exact Or.inl rfl | exact Or.inr (Or.inl rfl) | exact Or.inr (Or.inr rfl)) (hd : (x == ("__debug__" : Str)) = false := by decide)
    (hcd : (x == ("__classdict__" : Str)) = false := by decide) : PM X w W (.Subscript (.Name x p) (.Slice none none (some (.UnaryOp .USub (.Constant (.int 1) k p1) p2)) p3) pos) (mRevO i) := by
  refine ⟨_, pe_revL (pe_var hN hv hd hcd), fun F O ρ σ H Q hw R hh => ?_⟩
  subst hw
  unfold mRevO at hh
  split at hh
  · rename_i s ds q
    obtain ⟨e0, g0⟩ := muOf_some q
    obtain ⟨a, ea, oa, vs, hv, hr⟩ := R.muAt e0 g0
    refine ⟨.ref a, ea, a, vs, rfl, .inl (.inl hv), fun p hp => ?_⟩
    exact (hh.go (Step.refl _ _) R).newL hr.rev hp
  · exact hh.elim
end
end PM

/-! {}; a tuple repeated -/
namespace PM
open PySem PySem.Spec PyProof.Rows L2
section
variable {w : Wd} {W : WX} {X : Cx} {pos p : Pos} {a b : Expr} {ma mb : ME}
def mDct0 : ME := fun ρ => .ok (.dct [] [], true) ρ
theorem pm_dct0 : PM X w W (.Dict [] [] pos) mDct0 := by
  refine ⟨_, pe_dnewK, fun F O ρ σ H Q hw R hh => ?_⟩
  subst hw
  intro p hp
  have g := hh.go (Step.refl _ _) R
  exact g (.ref p) _ (Grow.new hp) ⟨p, .dct [] [], rfl, hp, rfl, [], upd_same, rfl, by simp only [List.map_nil, RepL]⟩
def repT : D → D → Option Vl
  | .tup xs, .int k => if xs ≠ [] ∧ 2 ≤ k ∧ k ≤ 1000 ∧ xs.length ≤ 1000 then some (.tup (List.replicate k.toNat xs).flatten, false) else none
  | _, _ => none
theorem RepL.rep {O : Av} {H : Hp} {ds : List D} {vs : List V} (h : RepL w O H ds vs) : ∀ n : Nat, RepL w O H (List.replicate n ds).flatten (List.replicate n vs).flatten
  | 0 => by simp [RepL]
  | n + 1 => by
    rw [List.replicate_succ, List.replicate_succ, List.flatten_cons, List.flatten_cons]
    exact RepL.append h (RepL.rep h n)
theorem o2_repT : Op2 w (rRepT w.K) repT := fun O H x y z vx vy Q dm e hx hy k => by
  cases x <;> cases y <;> simp only [repT] at e <;> first | (cases e; done) | skip
  split at e
  · rename_i xs n hf
    cases e
    simp only [Rep] at hx hy
    obtain ⟨a, vs, rfl, h1, h2⟩ := hx
    have hl := h2.length
    refine ⟨a, n, vs, rfl, hy, sq_of_rep h1, fun q => hf.1 ?_, hf.2.1, hf.2.2.1, by rw [hl]; exact hf.2.2.2, fun p hp => k.newT dm (h2.rep n.toNat) hp⟩
    rw [q] at hl
    exact List.eq_nil_of_length_eq_zero hl.symm
  · cases e
def mulT : D → D → Option Vl := orD mulD repT
theorem pm_mulT (hK : w.K = X.K) (ha : PM X w W a ma) (hb : PM X w W b mb) : PM X w W (.BinOp a .Mult b pos) (mOp2 mulT ma mb) :=
  pm_bin (op_mulW.or op_repT) (Op2.or (o2_intC (c := mulC) (fun i j => i * j) fun i j h => by unfold mulC at h; unfold CMulW; exact of_decide_eq_true h) (hK ▸ o2_repT)) ha hb
end
end PM

/-! in, not in: data of any depth in a tuple or a list -/
namespace PM
open PySem PySem.Spec PyProof.Rows L2
def rInT (K : PySem.W.Frag) (neg : Bool) : R2 := fun x y H Q => ∃ d ds, Dp K H x d ∧ (Dp K H y (.tuple ds) ∨ Dp K H y (.list ds)) ∧ SeqAt.shaped d = true ∧ PyData.canLayAll0 ds = true ∧ Q (.bl (if neg then !(ds.any fun z => PyData.eqv z d) else ds.any fun z => PyData.eqv z d)) H
def inA (neg : Bool) (x y : D) : Option Vl := (pyOk x).bind fun d => match toPy y with
  | some (.tuple ds) => if PyData.canLayAll0 ds = true then some (dB (if neg then !(ds.any fun z => PyData.eqv z d) else ds.any fun z => PyData.eqv z d)) else none
  | some (.list ds) => if PyData.canLayAll0 ds = true then some (dB (if neg then !(ds.any fun z => PyData.eqv z d) else ds.any fun z => PyData.eqv z d)) else none
  | _ => none
section
variable {w : Wd} {W : WX} {X : Cx} {pos p : Pos} {a b : Expr} {ma mb : ME}
theorem op_inT (hu : X.A.units + 65 < cLine) : OpR X (compareOp .In) (rInT X.K false) := by
  intro pins s σ H x y v u Q I rx ry h
  obtain ⟨d, ds, hd, he, sd, se, q⟩ := h
  obtain ⟨as, r1⟩ := Dp.reads I d x v hd rx
  rcases he with he | he
  · obtain ⟨bs, r2⟩ := Dp.reads I (.tuple ds) y u he ry
    exact SeqAt.in_tuple_reads r2 r1 se (SeqAt.canLay_of_shaped sd) (room_in_shaped sd hu) ⟨.bl _, H, I, rfl, q⟩
  · obtain ⟨bs, r2⟩ := Dp.reads I (.list ds) y u he ry
    exact SeqAt.in_list_reads r2 r1 se (SeqAt.canLay_of_shaped sd) (room_in_shaped sd hu) ⟨.bl _, H, I, rfl, q⟩
theorem op_notInT (hu : X.A.units + 65 < cLine) : OpR X (compareOp .NotIn) (rInT X.K true) := by
  intro pins s σ H x y v u Q I rx ry h
  obtain ⟨d, ds, hd, he, sd, se, q⟩ := h
  obtain ⟨as, r1⟩ := Dp.reads I d x v hd rx
  rcases he with he | he
  · obtain ⟨bs, r2⟩ := Dp.reads I (.tuple ds) y u he ry
    exact SeqAt.notIn_tuple_reads r2 r1 se (SeqAt.canLay_of_shaped sd) (room_in_shaped sd hu) ⟨.bl _, H, I, rfl, q⟩
  · obtain ⟨bs, r2⟩ := Dp.reads I (.list ds) y u he ry
    exact SeqAt.notIn_list_reads r2 r1 se (SeqAt.canLay_of_shaped sd) (room_in_shaped sd hu) ⟨.bl _, H, I, rfl, q⟩
theorem o2_inA (neg : Bool) : Op2 w (rInT w.K neg) (inA neg) := fun O H x y z vx vy Q dm e hx hy k => by
  unfold inA at e
  cases q : pyOk x with
  | none => rw [q] at e; cases e
  | some d =>
    rw [q] at e
    simp only [Option.bind_some] at e
    obtain ⟨a1, a2⟩ := pyOk_some q
    split at e
    · rename_i ds q2
      split at e
      · rename_i hc
        cases e
        exact ⟨d, ds, dp_of x vx d hx a1, .inl (dp_of y vy _ hy q2), a2, hc, k.bl⟩
      · cases e
    · rename_i ds q2
      split at e
      · rename_i hc
        cases e
        exact ⟨d, ds, dp_of x vx d hx a1, .inr (dp_of y vy _ hy q2), a2, hc, k.bl⟩
      · cases e
    · cases e
theorem room65 {k : Nat} {A : Around} (hr : Room k A) : A.units + 65 < cLine := by have := hr.un; omega
theorem pm_inA {k : Nat} (hK : w.K = X.K) (hr : Room k X.A) (ha : PM X w W a ma) (hb : PM X w W b mb) (hm : behindInMarks .In b = false := by rfl) : PM X w W (.Compare a [.In] [b] pos) (mOp2 (inA false) ma mb) := pm_cmp (op_inT (room65 hr)) (hK ▸ o2_inA false) ha hb hm
theorem pm_notInA {k : Nat} (hK : w.K = X.K) (hr : Room k X.A) (ha : PM X w W a ma) (hb : PM X w W b mb) (hm : behindInMarks .NotIn b = false := by rfl) : PM X w W (.Compare a [.NotIn] [b] pos) (mOp2 (inA true) ma mb) := pm_cmp (op_notInT (room65 hr)) (hK ▸ o2_inA true) ha hb hm
theorem pmt_inA {k : Nat} (hK : w.K = X.K) (hr : Room k X.A) (ha : PM X w W a ma) (hb : PM X w W b mb) (hm : behindInMarks .In b = false := by rfl) : PMT X w W (.Compare a [.In] [b] pos) (mTest (mOp2 (inA false) ma mb)) := pmt_cmp (op_inT (room65 hr)) (hK ▸ o2_inA false) ha hb hm
theorem pmt_notInA {k : Nat} (hK : w.K = X.K) (hr : Room k X.A) (ha : PM X w W a ma) (hb : PM X w W b mb) (hm : behindInMarks .NotIn b = false := by rfl) : PMT X w W (.Compare a [.NotIn] [b] pos) (mTest (mOp2 (inA true) ma mb)) := pmt_cmp (op_notInT (room65 hr)) (hK ▸ o2_inA true) ha hb hm
end
end PM

/-! ==, != of tuples whose items' comparison may run code: with either answer -/
namespace PM
open PySem PySem.Spec PyProof.Rows L2
open AutoSeq1 (wpAny_loadPart')
open GQ
section
variable {prog : Program} {wo : World} {A : Around} {R : Result → Shared → Prop}
theorem tup_eqB (l b : Addr) (xs ys : Array Value) (n n2 : Nat) (dd dd2 : Option Addr) (sl sl2 : Array (Option Value)) (e : Nat → Bool) (I : Nat → Shared → Prop)
    (turn : ∀ i (h1 : i < xs.size) (h2 : i < ys.size) s, I i s → wpAny (model prog wo) A.in1 (eqBool xs[i] ys[i]) (fun r s' => r = e i ∧ I (i + 1) s') (fun er s' => R (.error er) s') s)
    (fin : ∀ i s, I i s → R (.ok (.ret (.bool ((List.range (min xs.size ys.size)).all e && xs.size == ys.size)))) s) {s : Shared} (hl1 : s.heap.get? l = some { cls := .type "tuple", dict := dd, data := .seq xs n, slots := sl }) (hb1 : s.heap.get? b = some { cls := .type "tuple", dict := dd2, data := .seq ys n2, slots := sl2 }) (h : I 0 s) :
    wpAny (model prog wo) A.in1 (Builtin.«tuple.__eq__» ⟨[.ref l, .ref b], []⟩) (FinOf prog wo A R) (fun er s' => R (.error er) s') s := by
  have f2 := AutoSeq1.sub_tuple_tuple
  have hZ : (xs.toList.zip ys.toList).length = min xs.size ys.size := by simp
  have h0 := h
  obtain ⟨hp, g, d, tk, os⟩ := s
  wp_walk using wpAny_loadPart' hl1, wpAny_loadPart' hb1, wpAny_forIn_list _ (fun rest b s' => b.1 = none ∧ ∃ i, rest = (xs.toList.zip ys.toList).drop i ∧ i ≤ min xs.size ys.size ∧ (∀ j, j < i → e j = true) ∧ I i s') _
  case turn =>
    rintro ⟨y, x⟩ rest b s' ⟨hb', i, hz, hi, he, hI⟩
    have hlt : i < (xs.toList.zip ys.toList).length := by
      rcases Nat.lt_or_ge i (xs.toList.zip ys.toList).length with h' | h'
      · exact h'
      · rw [List.drop_of_length_le h'] at hz; cases hz
    have h1 : i < xs.size := by omega
    have h2 : i < ys.size := by omega
    rw [List.drop_eq_getElem_cons hlt] at hz
    injection hz with hyx hrest
    have hy : y = xs[i] := by have := congrArg Prod.fst hyx; simpa using this
    have hx : x = ys[i] := by have := congrArg Prod.snd hyx; simpa using this
    subst hy hx
    refine wpAny_bind (wpAny_mono (turn i h1 h2 s' hI) (fun r s2 q2 => ?_) fun _ _ x => x)
    obtain ⟨hr, q2⟩ := q2
    subst hr
    cases q : e i with
    | true =>
      wp_walk
      exact ⟨rfl, i + 1, hrest, by omega, fun j hj => by rcases Nat.lt_or_ge j i with z | z; exact he j z; rw [show j = i by omega]; exact q, q2⟩
    | false =>
      wp_walk
      have z : ((List.range (min xs.size ys.size)).all e && xs.size == ys.size) = false := by
        rw [Bool.and_eq_false_iff]
        exact .inl (List.all_eq_false.mpr ⟨i, by simp; omega, by simp [q]⟩)
      have := fin (i + 1) s2 q2
      rw [z] at this
      exact this
  case fin =>
    rintro ⟨b1, b2⟩ s' ⟨hb', i, hz, hi, he, hI⟩
    simp only at hb'
    subst hb'
    have hge : min xs.size ys.size ≤ i := by
      rcases Nat.lt_or_ge i (xs.toList.zip ys.toList).length with h' | h'
      · rw [List.drop_eq_getElem_cons h'] at hz; cases hz
      · exact hZ ▸ h'
    have hR := fin i s' hI
    have ha : (List.range (min xs.size ys.size)).all e = true := List.all_eq_true.mpr fun j hj => he j (by have := List.mem_range.mp hj; omega)
    rw [ha, Bool.true_and] at hR
    wp_walk
    simpa [Builtin.Tuple.tupleCompareSizes] using hR
  case h =>
    exact ⟨rfl, 0, rfl, Nat.zero_le _, fun j hj => absurd hj (Nat.not_lt_zero _), h0⟩
theorem tup_neB (l b : Addr) (xs ys : Array Value) (n n2 : Nat) (dd dd2 : Option Addr) (sl sl2 : Array (Option Value)) (e : Nat → Bool) (I : Nat → Shared → Prop)
    (turn : ∀ i (h1 : i < xs.size) (h2 : i < ys.size) s, I i s → wpAny (model prog wo) A.in1 (eqBool xs[i] ys[i]) (fun r s' => r = e i ∧ I (i + 1) s') (fun er s' => R (.error er) s') s)
    (fin : ∀ i s, I i s → R (.ok (.ret (.bool (!((List.range (min xs.size ys.size)).all e && xs.size == ys.size))))) s) {s : Shared} (hl1 : s.heap.get? l = some { cls := .type "tuple", dict := dd, data := .seq xs n, slots := sl }) (hb1 : s.heap.get? b = some { cls := .type "tuple", dict := dd2, data := .seq ys n2, slots := sl2 }) (h : I 0 s) :
    wpAny (model prog wo) A.in1 (Builtin.«tuple.__ne__» ⟨[.ref l, .ref b], []⟩) (FinOf prog wo A R) (fun er s' => R (.error er) s') s := by
  have f2 := AutoSeq1.sub_tuple_tuple
  have hZ : (xs.toList.zip ys.toList).length = min xs.size ys.size := by simp
  have h0 := h
  obtain ⟨hp, g, d, tk, os⟩ := s
  wp_walk using wpAny_loadPart' hl1, wpAny_loadPart' hb1, wpAny_forIn_list _ (fun rest b s' => b.1 = none ∧ ∃ i, rest = (xs.toList.zip ys.toList).drop i ∧ i ≤ min xs.size ys.size ∧ (∀ j, j < i → e j = true) ∧ I i s') _
  case turn =>
    rintro ⟨y, x⟩ rest b s' ⟨hb', i, hz, hi, he, hI⟩
    have hlt : i < (xs.toList.zip ys.toList).length := by
      rcases Nat.lt_or_ge i (xs.toList.zip ys.toList).length with h' | h'
      · exact h'
      · rw [List.drop_of_length_le h'] at hz; cases hz
    have h1 : i < xs.size := by omega
    have h2 : i < ys.size := by omega
    rw [List.drop_eq_getElem_cons hlt] at hz
    injection hz with hyx hrest
    have hy : y = xs[i] := by have := congrArg Prod.fst hyx; simpa using this
    have hx : x = ys[i] := by have := congrArg Prod.snd hyx; simpa using this
    subst hy hx
    refine wpAny_bind (wpAny_mono (turn i h1 h2 s' hI) (fun r s2 q2 => ?_) fun _ _ x => x)
    obtain ⟨hr, q2⟩ := q2
    subst hr
    cases q : e i with
    | true =>
      wp_walk
      exact ⟨rfl, i + 1, hrest, by omega, fun j hj => by rcases Nat.lt_or_ge j i with z | z; exact he j z; rw [show j = i by omega]; exact q, q2⟩
    | false =>
      wp_walk
      have z : ((List.range (min xs.size ys.size)).all e && xs.size == ys.size) = false := by
        rw [Bool.and_eq_false_iff]
        exact .inl (List.all_eq_false.mpr ⟨i, by simp; omega, by simp [q]⟩)
      have := fin (i + 1) s2 q2
      rw [z, Bool.not_false] at this
      exact this
  case fin =>
    rintro ⟨b1, b2⟩ s' ⟨hb', i, hz, hi, he, hI⟩
    simp only at hb'
    subst hb'
    have hge : min xs.size ys.size ≤ i := by
      rcases Nat.lt_or_ge i (xs.toList.zip ys.toList).length with h' | h'
      · rw [List.drop_eq_getElem_cons h'] at hz; cases hz
      · exact hZ ▸ h'
    have hR := fin i s' hI
    have ha : (List.range (min xs.size ys.size)).all e = true := List.all_eq_true.mpr fun j hj => he j (by have := List.mem_range.mp hj; omega)
    rw [ha, Bool.true_and] at hR
    wp_walk
    exact hR
  case h =>
    exact ⟨rfl, 0, rfl, Nat.zero_le _, fun j hj => absurd hj (Nat.not_lt_zero _), h0⟩
end
end PM

/-! ==, != of tuples and lists that hold instances: where all items are equal -/
namespace PM
open PySem PySem.Spec PyProof.Rows L2
def bot : Av := fun _ => False
theorem ext_step {H H' : Hp} (e : Ext H H') : Step bot H bot H' := ⟨fun _ h => h.elim, fun a o _ h => e a o h, fun a h => by
  cases q : H a with
  | none => exact absurd q h
  | some o => rw [e a o q]; simp⟩
theorem bot_step {O : Av} {H : Hp} : Step O H bot H := ⟨fun _ h => h.elim, fun _ _ _ h => h, fun _ h => h⟩
def eqF : D → D → Bool
  | .non, .non => true
  | .bl a, .bl b => a == b
  | .int i, .int j => i == j
  | .str x, .str y => x == y
  | _, _ => false
def isTr : Option Vl → Bool
  | some (.bl true, false) => true
  | _ => false
def eqXL (r : D → D → Bool) : List D → List D → Bool
  | [], [] => true
  | x :: xs, y :: ys => r x y && eqXL r xs ys
  | _, _ => false
def eqX (c : Nat) (f : Fn) : Nat → D → D → Bool
  | 0, x, y => eqF x y
  | n + 1, .tup xs, .tup ys => eqXL (eqX c f n) xs ys
  | n + 1, .lst xs, .lst ys => eqXL (eqX c f n) xs ys
  | _ + 1, .obj c' fs, .obj c'' gs => c' == c && c'' == c && isTr (fnN f [.obj c' fs, .obj c'' gs])
  | _ + 1, x, y => eqF x y
theorem isTr_some {o : Option Vl} (h : isTr o = true) : o = some (.bl true, false) := by
  unfold isTr at h
  split at h
  · rfl
  · cases h
def DX (w : Wd) (c : Nat) (f : Fn) (n : Nat) : Eqv := fun x y H => ∃ d e, Rep w bot H d x ∧ Rep w bot H e y ∧ eqX c f n d e = true
theorem mon_X {w : Wd} {c : Nat} {f : Fn} {n : Nat} : Mon (DX w c f n) := fun x y H H' e d => by
  obtain ⟨a, b, h1, h2, h3⟩ := d
  exact ⟨a, b, Rep.step (ext_step e) a x h1, Rep.step (ext_step e) b y h2, h3⟩
theorem flat_X {w : Wd} {H : Hp} {d e : D} {x y : V} (h1 : Rep w bot H d x) (h2 : Rep w bot H e y) (h : eqF d e = true) : DFlat x y H := by
  unfold eqF at h
  split at h
  · simp only [Rep] at h1 h2; subst h1; subst h2; exact ⟨rfl, rfl, rfl⟩
  · simp only [Rep] at h1 h2; subst h1; subst h2; exact ⟨rfl, rfl, h⟩
  · simp only [Rep] at h1 h2; subst h1; subst h2; exact ⟨rfl, rfl, h⟩
  · simp only [Rep] at h1 h2; subst h1; subst h2; exact ⟨rfl, rfl, h⟩
  · cases h
theorem prs_X {w : Wd} {c : Nat} {f : Fn} {n : Nat} {H : Hp} : ∀ (ds es : List D) (xs ys : List V), RepL w bot H ds xs → RepL w bot H es ys → eqXL (eqX c f n) ds es = true → Prs (DX w c f n) xs ys H
  | [], [], xs, ys, h1, h2, _ => by
    simp only [RepL] at h1 h2
    subst h1; subst h2
    exact .nil
  | d :: ds, e :: es, xs, ys, h1, h2, h => by
    simp only [RepL] at h1 h2
    obtain ⟨x, xs', rfl, a1, a2⟩ := h1
    obtain ⟨y, ys', rfl, b1, b2⟩ := h2
    simp only [eqXL, Bool.and_eq_true] at h
    exact .cons ⟨d, e, a1, b1, h.1⟩ (prs_X ds es xs' ys' a2 b2 h.2)
  | [], _ :: _, _, _, _, _, h => by cases h
  | _ :: _, [], _, _, _, _, h => by cases h
/-- two instances with the text's own == -/
def DSl (w : Wd) (c : Nat) (f : Fn) : Eqv := fun x y H => ∃ fs gs, Rep w bot H (.obj c fs) x ∧ Rep w bot H (.obj c gs) y ∧ fnN f [.obj c fs, .obj c gs] = some (.bl true, false)
section
variable {X : Cx} {w : Wd} {c j : Nat} {g : Addr} {fn : Fn}
theorem rcG_sl (hK : w.K = X.K) (hp : EqOk w c g) (F : MthOk X.prog X.w X.K X.mg X.base w g 2 j fn) : RcG X j (DSl w c fn) := by
  intro A pins s σ H x y u v sb I rx ry d
  obtain ⟨fs, gs, h1, h2, e⟩ := d
  obtain ⟨a, dx, vs, rfl, s1, _⟩ := slt_of h1
  obtain ⟨b, dy, us, rfl, s2, _⟩ := slt_of h2
  cases rx
  cases ry
  obtain ⟨sl, od, _, J, _⟩ := SlX.slt_inst I s1
  obtain ⟨sl', od', _, J', _⟩ := SlX.slt_inst I s2
  obtain ⟨m, hF⟩ := I.fr
  refine PySem.W.cmp_K (op := .Eq) (tb := .ref (w.cl c)) sb.room.units0 hF I.ok.mod.kin J J'.type (by simp [PySem.W.notFirst]) (hK ▸ hp.at_) (hK ▸ hp.fn) ?_
  have e0 : Env0 X.prog X.w X.K X.mg X.base A X.stack s H := by
    have e := I.env0
    exact ⟨by rw [sb.fr]; exact e.frames, e.mod, e.bs, e.bsz, e.funs, e.frf, e.hok, e.bare⟩
  have hsp : spOf w 2 fn [.ref a, .ref b] H (fun v H' => v = .bl true ∧ Ext H H') E0 := by
    refine sp_of (O := bot) (fun _ h => h.elim) rfl e ?_ fun v H' gr gv => ⟨rep_bl (w := w) (O := bot) (H := H') gv, gr⟩
    simp only [RepL]
    exact ⟨_, _, rfl, h1, _, _, rfl, h2, rfl⟩
  refine wpAny_mono (wpAny_call (SlX.run_at (us := [.ref a, .ref b]) (ws := [.ref a, .ref b]) F sb.room e0 pass0 I (.cons rfl (.cons rfl .nil)) hsp)) (fun q s' z => ?_) fun _ _ x => x
  obtain ⟨z', H', I', rz, ez, ex⟩ := z
  subst ez
  cases rz
  exact ⟨rfl, H', I', ex⟩
theorem eqG_sl (hK : w.K = X.K) (hp : EqOk w c g) (F : MthOk X.prog X.w X.K X.mg X.base w g 2 j fn) : EqG X j (DSl w c fn) := (rcG_sl hK hp F).eqG fun x y H d => by
  obtain ⟨fs, gs, h1, h2, _⟩ := d
  obtain ⟨a, _, _, rfl, _⟩ := slt_of h1
  obtain ⟨b, _, _, rfl, _⟩ := slt_of h2
  exact ⟨a, b, rfl, rfl⟩
theorem split_X {n : Nat} {x y : V} {H : Hp} (d : DX w c fn (n + 1) x y H) : DFlat x y H ∨ DTup w.K (DX w c fn n) x y H ∨ DList (DX w c fn n) x y H ∨ DSl w c fn x y H := by
  obtain ⟨d, e, h1, h2, h⟩ := d
  unfold eqX at h
  split at h
  · cases ‹_ + 1 = 0›
  · rename_i n' ds es q
    cases q
    simp only [Rep] at h1 h2
    obtain ⟨a, vs, rfl, a1, a2⟩ := h1
    obtain ⟨b, us, rfl, b1, b2⟩ := h2
    exact .inr (.inl ⟨a, b, vs, us, rfl, rfl, sq_of_rep a1, sq_of_rep b1, prs_X ds es vs us a2 b2 h⟩)
  · rename_i n' ds es q
    cases q
    simp only [Rep] at h1 h2
    obtain ⟨a, vs, rfl, a1, a2⟩ := h1
    obtain ⟨b, us, rfl, b1, b2⟩ := h2
    exact .inr (.inr (.inl ⟨a, b, vs, us, rfl, rfl, a1.2, b1.2, prs_X ds es vs us a2 b2 h⟩))
  · rename_i n' c1 fs c2 gs q
    simp only [Bool.and_eq_true, beq_iff_eq] at h
    obtain ⟨⟨e1, e2⟩, e3⟩ := h
    subst e1
    subst e2
    exact .inr (.inr (.inr ⟨fs, gs, h1, h2, isTr_some e3⟩))
  · exact .inl (flat_X h1 h2 h)
theorem eqG_X (hK : w.K = X.K) (hp : EqOk w c g) (F : MthOk X.prog X.w X.K X.mg X.base w g 2 j fn) : ∀ n, EqG X (j + n) (DX w c fn n)
  | 0 => (eqG_flat.imp fun x y H d => by obtain ⟨a, b, h1, h2, h3⟩ := d; exact flat_X h1 h2 (by simpa only [eqX] using h3)).mono (Nat.zero_le _)
  | n + 1 => by
    have ih := eqG_X hK hp F n
    have t : EqG X (j + (n + 1)) (DTup w.K (DX w c fn n)) := hK ▸ eqG_tup mon_X ih
    have l : EqG X (j + (n + 1)) (DList (DX w c fn n)) := eqG_list mon_X ih
    have s : EqG X (j + (n + 1)) (DSl w c fn) := (eqG_sl hK hp F).mono (by omega)
    have f : EqG X (j + (n + 1)) DFlat := eqG_flat.mono (Nat.zero_le _)
    exact (f.or (t.or (l.or s))).imp fun x y H d => split_X d
/-- at the top: a tuple or a list -/
def eqXT (c : Nat) (f : Fn) (n : Nat) : D → D → Bool
  | .tup xs, .tup ys => eqXL (eqX c f n) xs ys
  | .lst xs, .lst ys => eqXL (eqX c f n) xs ys
  | _, _ => false
def eqXT' (c : Nat) (f : Fn) (n : Nat) : D → D → Bool
  | .tup xs, .tup ys => eqXL (eqX c f n) xs ys
  | _, _ => false
def eqXD (c : Nat) (f : Fn) (n : Nat) (x y : D) : Option Vl := if eqXT c f n x y = true then some (dB true) else none
def neXD (c : Nat) (f : Fn) (n : Nat) (x y : D) : Option Vl := if eqXT' c f n x y = true then some (dB false) else none
def DXT (w : Wd) (c : Nat) (f : Fn) (n : Nat) : Eqv := fun x y H => DTup w.K (DX w c f n) x y H ∨ DList (DX w c f n) x y H
theorem rcG_X (hK : w.K = X.K) (hp : EqOk w c g) (F : MthOk X.prog X.w X.K X.mg X.base w g 2 j fn) (n : Nat) : RcG X (j + n + 1) (DXT w c fn n) := by
  intro A pins s σ H x y u v sb I rx ry d
  rcases d with d | d
  · exact rcG_tup (n := j + n) mon_X (eqG_X hK hp F n) A pins s σ H x y u v sb I rx ry (hK ▸ d)
  · exact rcG_list (n := j + n) mon_X (eqG_X hK hp F n) A pins s σ H x y u v sb I rx ry d
theorem o2_eqX (n : Nat) : Op2 w (rEqG (DXT w c fn n)) (eqXD c fn n) := fun O H x y z vx vy Q dm e hx hy k => by
  unfold eqXD at e
  split at e
  · rename_i q
    cases e
    have h1 := Rep.step (bot_step (O := O)) x vx hx
    have h2 := Rep.step (bot_step (O := O)) y vy hy
    refine ⟨?_, fun H' ex => k _ H' ex (by simp only [GoAt, dB, Rep])⟩
    unfold eqXT at q
    split at q
    · simp only [Rep] at h1 h2
      obtain ⟨a, vs, rfl, a1, a2⟩ := h1
      obtain ⟨b, us, rfl, b1, b2⟩ := h2
      exact .inl ⟨a, b, vs, us, rfl, rfl, sq_of_rep a1, sq_of_rep b1, prs_X _ _ vs us a2 b2 q⟩
    · simp only [Rep] at h1 h2
      obtain ⟨a, vs, rfl, a1, a2⟩ := h1
      obtain ⟨b, us, rfl, b1, b2⟩ := h2
      exact .inr ⟨a, b, vs, us, rfl, rfl, a1.2, b1.2, prs_X _ _ vs us a2 b2 q⟩
    · cases q
  · cases e
/-- x != y of tuples -/
def rNeG (D : Eqv) : R2 := fun x y H Q => D x y H ∧ ∀ H', Ext H H' → Q (.bl false) H'
theorem op_neG {D : Eqv} {n : Nat} (hD : Mon D) (h : EqG X n D) (hr : Room (n + 1) X.A) : OpR X (compareOp .NotEq) (rNeG (DTup X.K D)) := by
  intro pins s σ H x y v u Q I rx ry hq
  obtain ⟨d, q⟩ := hq
  obtain ⟨a, b, xs, ys, rfl, rfl, ha, hb, p⟩ := d
  cases rx
  cases ry
  obtain ⟨its, r, e, z⟩ := I.tuple ha
  obtain ⟨its2, r2, e2, z2⟩ := I.tuple hb
  have hsz : its.toArray.size = its2.toArray.size := by rw [List.size_toArray, List.size_toArray, ← r.length, ← r2.length]; exact p.1
  obtain ⟨⟨cls, dd, data, sl⟩, ho, hc, k, hd⟩ := id e
  obtain ⟨⟨cls2, dd2, data2, sl2⟩, ho2, hc2, k2, hd2⟩ := id e2
  simp only at hc hd hc2 hd2
  subst hc hd hc2 hd2
  show wpAny _ _ (richCompare .NotEq _ _) _ _ _
  refine wpAny_richCompare_same_room (op := .NotEq) ⟨_, ho, rfl⟩ ⟨_, ho2, rfl⟩ F.slot_tuple_ne (GQ.call_here F.slot_tuple_ne ⟨_, ho, rfl⟩ F.entry_tuple_ne (F.args_tuple_ne_2 _ _) ?_) hr.units0
  refine tup_neB a b its.toArray its2.toArray k k2 dd dd2 sl sl2 (fun _ => true) (fun _ s' => LoopI X pins σ H s') (fun i h1 h2 s' q => ?_) (fun i s' q' => ?_) ho ho2 ⟨H, I, Ext.rfl'⟩
  · exact turnG hD h ⟨hr, rfl⟩ p r r2 i h1 h2 s' q
  · obtain ⟨H', I', ex⟩ := q'
    refine ⟨(fun x => nomatch x), .bl false, H', I', ?_, q H' ex⟩
    have : ((List.range (min its.toArray.size its2.toArray.size)).all (fun _ => true) && its.toArray.size == its2.toArray.size) = true := by
      rw [hsz]
      simp
    rw [this]
    rfl
theorem o2_neX (n : Nat) : Op2 w (rNeG (DTup w.K (DX w c fn n))) (neXD c fn n) := fun O H x y z vx vy Q dm e hx hy k => by
  unfold neXD at e
  split at e
  · rename_i q
    cases e
    have h1 := Rep.step (bot_step (O := O)) x vx hx
    have h2 := Rep.step (bot_step (O := O)) y vy hy
    refine ⟨?_, fun H' ex => k _ H' ex (by simp only [GoAt, dB, Rep])⟩
    unfold eqXT' at q
    split at q
    · simp only [Rep] at h1 h2
      obtain ⟨a, vs, rfl, a1, a2⟩ := h1
      obtain ⟨b, us, rfl, b1, b2⟩ := h2
      exact ⟨a, b, vs, us, rfl, rfl, sq_of_rep a1, sq_of_rep b1, prs_X _ _ vs us a2 b2 q⟩
    · cases q
  · cases e
end
section
variable {w : Wd} {W : WX} {X : Cx} {pos : Pos} {e e' : Expr} {m m' : ME} {c j : Nat} {g : Addr} {fn : Fn}
theorem pm_eqX (n : Nat) (hK : w.K = X.K) (hp : EqOk w c g) (F : MthOk X.prog X.w X.K X.mg X.base w g 2 j fn) (hr : Room (j + n + 1) X.A) (ha : PM X w W e m) (hb : PM X w W e' m') : PM X w W (.Compare e [.Eq] [e'] pos) (mOp2 (orD eqD (eqXD c fn n)) m m') :=
  pm_cmp ((op_eqD hr.units).or (op_eqG (rcG_X hK hp F n) hr)) (Op2.or (hK ▸ o2_eqD) (o2_eqX n)) ha hb (nomark _)
theorem pmt_eqX (n : Nat) (hK : w.K = X.K) (hp : EqOk w c g) (F : MthOk X.prog X.w X.K X.mg X.base w g 2 j fn) (hr : Room (j + n + 1) X.A) (ha : PM X w W e m) (hb : PM X w W e' m') : PMT X w W (.Compare e [.Eq] [e'] pos) (mTest (mOp2 (orD eqD (eqXD c fn n)) m m')) :=
  pmt_cmp ((op_eqD hr.units).or (op_eqG (rcG_X hK hp F n) hr)) (Op2.or (hK ▸ o2_eqD) (o2_eqX n)) ha hb (nomark _)
theorem pm_neX (n : Nat) (hK : w.K = X.K) (hp : EqOk w c g) (F : MthOk X.prog X.w X.K X.mg X.base w g 2 j fn) (hr : Room (j + n + 1) X.A) (ha : PM X w W e m) (hb : PM X w W e' m') : PM X w W (.Compare e [.NotEq] [e'] pos) (mOp2 (orD neD (neXD c fn n)) m m') :=
  pm_cmp ((op_neD hr.units).or (op_neG (n := j + n) mon_X (eqG_X hK hp F n) hr)) (Op2.or (hK ▸ o2_neD) (hK ▸ o2_neX n)) ha hb (nomark _)
theorem pmt_neX (n : Nat) (hK : w.K = X.K) (hp : EqOk w c g) (F : MthOk X.prog X.w X.K X.mg X.base w g 2 j fn) (hr : Room (j + n + 1) X.A) (ha : PM X w W e m) (hb : PM X w W e' m') : PMT X w W (.Compare e [.NotEq] [e'] pos) (mTest (mOp2 (orD neD (neXD c fn n)) m m')) :=
  pmt_cmp ((op_neD hr.units).or (op_neG (n := j + n) mon_X (eqG_X hK hp F n) hr)) (Op2.or (hK ▸ o2_neD) (hK ▸ o2_neX n)) ha hb (nomark _)
end
end PM

namespace PM
open PySem
open Builtin Builtin.ObjectAttr
/-! ### a new instance, whoever's __new__ makes it -/
section
variable {prog : Program} {w : World} {A : Around} {E : Value → Shared → Prop} {R : Result → Shared → Prop} {hp : Heap} {g : Array GenState} {d : Drawn} {t : Nat} {os : OsState}
variable {nm q : Str} {C N : Addr} {bs bm bm0 : List Value} {hdct : Bool} {sn : List Str} {sub : List Value} {ab : Bool} {col : Option Bool} {dd : Option Addr} {k0 k1 k2 k3 k5 : Option Value} {B0 newId init0 : String}
/-- the class' line, as far as __new__ asks -/
structure LineF (B0 : String) (bm : List Value) : Prop where
  hB : bm.contains (.type B0) = true
  hA : bm.contains (.type "AttributeError") = false
  hN : bm.contains (.type "NameError") = false
theorem chk_new {M : Model} (F : ExcBaseFacts B0 newId init0 bm0) (L : LineF B0 bm) {rest : List Value} {Q : Unit → Shared → Prop} (hC : hp.get? C = some (excClassObj nm q C N bs bm hdct sn sub ab col dd k0 k1 k2 k3 k5 newId)) (fin : Q () ⟨hp, g, d, t, os⟩) : wpAny M A (checkBuiltinCall newId ⟨.ref C :: rest, []⟩) Q E ⟨hp, g, d, t, os⟩ := by
  have c1 : (Value.ref C :: bm).contains (.type B0) = true := by rw [List.contains_cons, L.hB, Bool.or_true]
  have c2 := F.noStar
  simp only [checkBuiltinCall, F.newSplit, F.newKind, F.newRow]
  repeat (first | refine wpAny_loadPart_at hC ?_ | (refine wpAny_isSubtype_exc hC ?_; rw [c1]) | refine wpAny_madeBy_exc hC ?_ | refine wpAny_staticBase_exc hC ?_ | simp only [bne_self_eq_false, Bool.false_eq_true, if_false] | wp_step)
  exact fin
theorem made_new (F : ExcBaseFacts B0 newId init0 bm0) (L : LineF B0 bm) {rest : List Value} (hC : hp.get? C = some (excClassObj nm q C N bs bm hdct sn sub ab col dd k0 k1 k2 k3 k5 newId)) (fin : R (.ok (.ret (.ref (hp.objs.size + 1)))) ⟨(hp.push (W.kdv_tup rest)).push (HandSPX.excO C hp.objs.size), g, d, t, os⟩) (hl : rest.length ≤ sizeLine) :
    codeAny (model prog w) A (.builtin newId ⟨.ref C :: rest, []⟩) R ⟨hp, g, d, t, os⟩ := by
  have c0 := F.ends
  have c1 : (Value.ref C :: bm).contains (.type B0) = true := by rw [List.contains_cons, L.hB, Bool.or_true]
  have c2 : (Value.ref C :: bm).contains (.type "AttributeError") = false := by rw [List.contains_cons, L.hA]; rfl
  have c3 : (Value.ref C :: bm).contains (.type "NameError") = false := by rw [List.contains_cons, L.hN]; rfl
  have hrest := hl
  refine codeAny_builtinAt F.entry ?_
  unfold Builtin.«BaseException.__new__»
  refine wpAt_bind ?_
  show wpAt _ _ _ (stack >>= _) _ _ _
  refine wpAt_bind (wpAt_stack fun p below => wpAt_of_wpAny ?_)
  wp_walk
  refine wpAt_of_wpAny ?_
  rw [F.owner]
  repeat (first | with_reducible refine wpAny_loadPart_at hC ?_ | with_reducible refine wpAny_madeHere_exc F.canon hC ?_ | (with_reducible refine wpAny_isSubtype_exc hC ?_; first | rw [c1] | rw [c2] | rw [c3]) | wp_step)
  show R _ _
  rw [Heap.size_push]
  exact fin
theorem typ_call (F : ExcBaseFacts B0 newId init0 bm0) (L : LineF B0 bm) {rest : List Value} {fI : Addr} {Q : Fin → Shared → Prop} (hC : hp.get? C = some (excClassObj nm q C N bs bm hdct sn sub ab col dd k0 k1 k2 k3 k5 newId)) (hi   : W.Looks (model prog w) hp (typeLookup (.ref C) "__init__") (some (.ref fI))) (hb : ∀ self, W.Looks (model prog w) hp (bindSpecial (.ref fI) self) (.ref fI, [self])) (hl : rest.length ≤ sizeLine)
    (fin : codeAny (model prog w) A (.call (.ref fI) ⟨.ref (hp.objs.size + 1) :: rest, []⟩) (fun r s' => match r with | .ok (.ret v) => v = .none ∧ Q (.done (.ret (.ref (hp.objs.size + 1)))) s' | .ok _ => False | .error e => E e s') ⟨(hp.push (W.kdv_tup rest)).push (HandSPX.excO C hp.objs.size), g, d, t, os⟩) :
    wpAny (model prog w) A (Builtin.«type.__call__» ⟨.ref C :: rest, []⟩) Q E ⟨hp, g, d, t, os⟩ := by
  repeat (first | with_reducible refine wpAny_madeBy_exc hC ?_ | with_reducible refine wpAny_loadPart_at hC ?_ | wp_step)
  refine codeAny_call_builtin_code (Code.quiet_builtin _ F.quiet) (chk_new F L hC (made_new F L hC ?_ hl))
  show wpAny _ _ _ _ _ _
  have k : ∀ c o, hp.get? c = some o → ((hp.push (W.kdv_tup rest)).push (HandSPX.excO C hp.objs.size)).get? c = some o := fun c o z => Heap.get?_push_of_some _ (Heap.get?_push_of_some _ z)
  have h1 := k _ _ hC
  have h2 : ((hp.push (W.kdv_tup rest)).push (HandSPX.excO C hp.objs.size)).get? (hp.objs.size + 1) = some (HandSPX.excO C hp.objs.size) := by heap_get
  have h3 : (Value.ref C :: bm).contains (.ref C) = true := by simp
  have i1 := hi.keeps k
  have b1 := (hb (.ref (hp.objs.size + 1))).keeps k
  unfold isInstance
  repeat (first | with_reducible refine wpAny_loadPart_at h2 ?_ | (with_reducible refine wpAny_isSubtype_exc h1 ?_; rw [h3]) | wp_step)
  show wpAny _ _ (typeLookup (.ref C) _) _ _ _
  refine i1.at (wpAny_holding (wpAny_bind (b1.at (wpAny_bind (wpAny_call (codeAny_mono fin fun r s' z => ?_))))))
  rcases r with e | (v | _ | _ | _) <;> first | exact z | exact z.elim | skip
  obtain ⟨rfl, z⟩ := z
  first | exact wpAny_pure (wpAny_pure z) | (wp_walk; exact z)
theorem call_new (F : ExcBaseFacts B0 newId init0 bm0) (L : LineF B0 bm) {rest : List Value} {fI : Addr} (hC : hp.get? C = some (excClassObj nm q C N bs bm hdct sn sub ab col dd k0 k1 k2 k3 k5 newId)) (hi   : W.Looks (model prog w) hp (typeLookup (.ref C) "__init__") (some (.ref fI))) (hb : ∀ self, W.Looks (model prog w) hp (bindSpecial (.ref fI) self) (.ref fI, [self])) (hl : rest.length ≤ sizeLine)
    (fin : codeAny (model prog w) (A.under (.builtin "type.__call__" ⟨.ref C :: rest, []⟩)) (.call (.ref fI) ⟨.ref (hp.objs.size + 1) :: rest, []⟩) (W.InitBack (hp.objs.size + 1) R) ⟨(hp.push (W.kdv_tup rest)).push (HandSPX.excO C hp.objs.size), g, d, t, os⟩) :
    codeAny (model prog w) A (.call (.ref C) ⟨rest, []⟩) R ⟨hp, g, d, t, os⟩ := by
  have f1 := tc_lookup
  have f2 := tc_bind (.ref C)
  have ty : (⟨hp, g, d, t, os⟩ : Shared).TypeIs (.ref C) "type" := ⟨_, hC, rfl⟩
  refine codeAny_of_tree ?_
  show wpAny _ _ (callAny (.ref C) _) _ _ _
  repeat (any_goals (first | assumption | with_reducible refine wpAny_loadPart_at hC ?_ | wp_step))
  refine ⟨rfl, codeAny_call_builtin_at (Code.quiet_builtin _ (by decide +kernel)) entry_typeCall (wpAny_check_type_call_sub hC (typ_call F L hC hi hb hl (codeAny_mono fin fun r s' z => ?_)))⟩
  rcases r with e | (v | _ | _ | _) <;> exact z
end
end PM

/-! an own exception whose __init__ says super().__init__(text), self.f = x: over any base -/
namespace PM
open PySem PySem.Spec PyProof.Rows PySem.W PySem.Calls
open Builtin Builtin.ObjectAttr
/-- own classes, then the base's line -/
def refsB (T : List Value) : List Value → Bool
  | .ref _ :: r => refsB T r
  | l => decide (l = T)
theorem refsB_cases (T : List Value) (l : List Value) (e : refsB T l = true) : (∃ c r, l = .ref c :: r ∧ refsB T r = true) ∨ l = T := by
  unfold refsB at e
  split at e
  · exact .inl ⟨_, _, rfl, e⟩
  · exact .inr (of_decide_eq_true e)
theorem refsB_has {T : List Value} (Y : String) : ∀ l : List Value, refsB T l = true → l.contains (.type Y) = T.contains (.type Y)
  | [], e => by
    rcases refsB_cases T [] e with ⟨_, _, q, _⟩ | q
    · cases q
    · rw [← q]
  | a :: r, e => by
    rcases refsB_cases T (a :: r) e with ⟨c, r', q, z⟩ | q
    · obtain ⟨q1, q2⟩ := List.cons.inj q
      subst q1
      subst q2
      have ih := refsB_has Y r z
      rw [List.contains_cons, ih]
      rfl
    · rw [q]
theorem refsB_lets {T : List Value} (hT : ∀ x : Value, refuseLoop x "__setattr__" T = pure ()) (x : Value) : ∀ l : List Value, refsB T l = true → refuseLoop x "__setattr__" l = pure ()
  | [], e => by
    rcases refsB_cases T [] e with ⟨_, _, q, _⟩ | q
    · cases q
    · rw [q]; exact hT x
  | a :: r, e => by
    rcases refsB_cases T (a :: r) e with ⟨c, r', q, z⟩ | q
    · obtain ⟨q1, q2⟩ := List.cons.inj q
      subst q1
      subst q2
      rw [refuseLoop_ref]
      exact refsB_lets hT x r z
    · rw [q]; exact hT x
section
variable {prog : Program} {w : World} {A : Around} {E : Value → Shared → Prop} {R : Result → Shared → Prop} {hp : Heap} {g : Array GenState} {d : Drawn} {t : Nat} {os : OsState} {K : Frag}
/-- self.f = v, the first one -/
theorem osaX {f : Str} {tk : Tok} {v : Value} {x C : Addr} {fv : Array Value} {cd : ClassData} (X : K.In hp) (ho : hp.get? x = some { cls := .ref C, data := .fields fv }) (hcd : clsIn K C = some cd) (lets : ∀ y : Value, refuseLoop y "__setattr__" cd.mro = pure ()) (hob : mroIn K C (.type "object") = some true) (hh : cd.hasDict = true) (no : findIn K (.ref C) f = some none)
    (fin : ∀ h' tk' dx, (∀ b o, b ≠ x → hp.get? b = some o → h'.get? b = some o) → hp.objs.size ≤ dx → dx ≠ x → h'.get? x = some { cls := .ref C, dict := some dx, data := .fields fv } → h'.Ns1 dx (fun y => if y = f then some v else none) → R (.ok (.ret .none)) ⟨h', g, d, tk', os⟩) :
    codeAny (model prog w) A (.call (.builtin "object.__setattr__") ⟨[.ref x, .str f tk, v], []⟩) R ⟨hp, g, d, t, os⟩ := by
  have J : InstAt hp x { cls := .ref C, data := .fields fv } C none := ⟨ho, rfl, rfl, trivial⟩
  have away : x ≠ hp.objs.size := Nat.ne_of_lt (Heap.lt_size ho)
  have isO : Looks (model prog w) hp (isInstance (.ref x) (.type "object")) true := J.type.andThen (looks_mroIn X hob)
  have S := PySem.F.store_object
  refine codeAny_call_builtin S.slot.plain S.entry (@check_slot (model prog w) _ _ ⟨hp, g, d, t, os⟩ "object.__setattr__" "object" "__setattr__" (.ref x) [.str f tk, v] [] _ S.kind S.split isO (S.args (.ref x) (.str f tk) v) ?_)
  have line : Looks (model prog w) hp (mroOf (.ref C)) cd.mro := (looks_clsIn X hcd).andThen .now
  have none3 : Looks (model prog w) hp (storeTaker? none) none := .now
  have dat : Looks (model prog w) hp (classData C) cd := looks_clsIn X hcd
  rw [osa_eq, refuse_eq]
  refine wpAny_bind (wpAny_bind (J.type.at (wpAny_bind (line.at ?_))))
  rw [lets]
  refine wpAny_pure (wpAny_bind (J.type.at (wpAny_bind ((looks_findIn X no).at (wpAny_bind (none3.at ?_))))))
  show wpAny _ _ (storeInOwnDict (.ref x) (.ref C) (.str f tk) f v false) _ _ _
  cases cd with
  | mk nm bs mro ns qn hd sn sb ab col del =>
    dsimp only at hh
    subst hh
    unfold storeInOwnDict ownDictForStores
    repeat (first | with_reducible refine HandSPX.store_in_new ?_ ?_ | with_reducible refine wpAny_loadPart_at ho ?_ | with_reducible refine dat.at ?_ | wp_step)
    · exact ⟨_, #[], _, (Heap.get?_update_ne _ _ _ _ (Ne.symm away)).trans (Heap.get?_push_at rfl rfl), rfl, fun e he => absurd he (by simp), fun _ => rfl⟩
    · intro h' tk' n1 same
      have ho2 : (hp.push { cls := .type "dict", data := .dict #[] }).get? x = some { cls := .ref C, data := .fields fv } := Heap.get?_push_of_some _ ho
      refine fin h' tk' hp.objs.size (fun b o hb hbo => ?_) (Nat.le_refl _) (Ne.symm away) ((same.2 x away).trans (Heap.get?_update_self _ ho2 rfl)) n1
      exact (same.2 b (Nat.ne_of_lt (Heap.lt_size hbo))).trans ((Heap.get?_update_ne _ _ _ _ hb).trans (Heap.get?_push_of_some _ hbo))
/-- what is known of a base's __init__ -/
structure IniF (B i : String) : Prop where
  plain : plainId i = true
  entry : entryFor table i = some Builtin.«BaseException.__init__»
  kind : builtinKind i = some .slot
  row : Manifest.signature? i = some ⟨.positional, "*", B, .self, [⟨"args", .varPos, false⟩]⟩
  star : (B != "*") = true
theorem iniF_of {B newId i : String} {bmB : List Value} (F : ExcBaseFacts B newId i bmB) : IniF B i := ⟨F.init.plain, F.initEntry, F.initKind, F.initRow, F.noStar⟩
theorem bound_init {M : Model} {B i newId : String} (F : IniF B i) {nm q : Str} {C N e : Addr} {oe : Obj} {bs bm : List Value} {hdct : Bool} {sn : List Str} {sub : List Value} {ab : Bool} {col : Option Bool} {dd : Option Addr} {k0 k1 k2 k3 k5 : Option Value} {rest : List Value} {Q : Unit → Shared → Prop}
    (hC : hp.get? C = some (excClassObj nm q C N bs bm hdct sn sub ab col dd k0 k1 k2 k3 k5 newId)) (he : hp.get? e = some oe) (hc : oe.cls = .ref C) (fin : Q () ⟨hp, g, d, t, os⟩) : wpAny M A (checkBoundCall i ⟨.ref e :: rest, []⟩) Q E ⟨hp, g, d, t, os⟩ := by
  have st := F.star
  simp only [checkBoundCall, F.kind, F.row]
  repeat (first | with_reducible refine wpAny_loadPart_at hC ?_ | (with_reducible refine wpAny_loadPart_at he ?_; rw [hc]) | wp_step)
  refine wpAny_onRaise ?_
  have ck : ∀ (x y : String) (k : Nat), Bind.check ⟨.positional, "*", B, .self, [⟨"args", .varPos, false⟩]⟩ x y k (List.map (fun z => z.fst) ({ pos := Value.ref e :: rest } : Args).kw) = pure () := fun x y k => check_star_args _ _ _ _ _ _
  rw [ck]
  exact wpAny_pure fin
/-- the base's __init__, bound, called -/
theorem call_mw {B i newId : String} {bm bs : List Value} {nm q : Str} {C N u e t0 : Addr} {hdct ab : Bool} {sn : List Str} {sub : List Value} {col : Option Bool} {dd : Option Addr} {k0 k1 k2 k3 k5 : Option Value} {xs : List Value} {Q : Value → Shared → Prop} (FB : IniF B i)
    (hC : hp.get? C = some (excClassObj nm q C N bs bm hdct sn sub ab col dd k0 k1 k2 k3 k5 newId)) (he : hp.get? e = some (HandSPX.excO C t0)) (hu : hp.get? u = some (kxs_mw i e)) (hl : xs.length ≤ sizeLine)
    (fin : ∀ h' t1, (∀ b o, b ≠ e → hp.get? b = some o → h'.get? b = some o) → h'.get? e = some (HandSPX.excO C t1) → Q .none ⟨h', g, d, t, os⟩) : wpAny (model prog w) A (call (.ref u) xs) Q E ⟨hp, g, d, t, os⟩ := by
  refine wpAny_call (codeAny_of_tree ?_)
  show wpAny _ A.in1 (callAny (.ref u) ⟨xs, []⟩) _ _ _
  simp only [callAny]
  refine wpAny_bind (wpAny_load hu ?_)
  simp only [kxs_mw, show (Value.type "method-wrapper" == Value.type "method" || Value.type "method-wrapper" == Value.type "builtin_function_or_method" || Value.type "method-wrapper" == Value.type "method-wrapper") = true by decide, if_true]
  refine KFB.if_so (by decide) (wpAny_bind (bound_init FB hC he rfl (wpAny_bind (wpAny_pure (wpAny_pure ?_)))))
  refine ⟨plainId_quiet FB.plain _, codeAny_builtin FB.entry ?_⟩
  rw [Around.under_plainId FB.plain _]
  wp_walk
  refine fin _ hp.objs.size (fun b o hb hbo => ?_) ?_
  · rw [Heap.get?_update_other _ _ (Ne.symm hb)]
    exact Heap.get?_push_of_some _ hbo
  · rw [Heap.get?_update_self _ (Heap.get?_push_of_some _ he) rfl]
    rfl
end
end PM

namespace PM
open PySem PySem.Spec PyProof.Rows PySem.W PySem.Calls
open Builtin Builtin.ObjectAttr
/-- the text of such an __init__ -/
structure SupSt where
  msg : Str
  fld : Str
  slf : Str
  par : Str
  j : Nat
  p0 : Pos
  p1 : Pos
  p2 : Pos
  p3 : Pos
  p4 : Pos
  p5 : Pos
  p6 : Pos
  p7 : Pos
  p8 : Pos
  p9 : Pos
abbrev SupSt.call (b : SupSt) : Expr := .Call (.Attribute (.Call (.Name "super" b.p0) [] [] b.p1) "__init__" b.p2) [.Constant (.str b.msg) b.j b.p3] [] b.p4
def SupSt.body (b : SupSt) : List Stmt := [.Expr b.call b.p5, .Assign [.Attribute (.Name b.slf b.p6) b.fld b.p7] (.Name b.par b.p8) b.p9]
/-- what the written part says of the class and its __init__ -/
structure SupK (prog : Program) (K : Frag) (C f cc cda : Addr) (B i newId : String) (bmB : List Value) (b : SupSt) (qual : Str) (params : Arguments) (scope : Scope) : Prop where
  cls : ∃ nm q N bs bm sn sub ab col dd k0 k1 k2 k3 k5, K.lookup C = some (excClassObj nm q C N bs bm true sn sub ab col dd k0 k1 k2 k3 k5 newId) ∧ refsB bmB bm = true
  fn : ∃ (oc : Value) (od : Option Addr) (kV doc pm : Value) (an : Option Addr) (ct : Value) (osl : Array (Option Value)), K.lookup f = some ⟨oc, od, .func (ksFn "__init__" qual params b.body scope .none kV doc pm an (.ref cda) ct cc), osl⟩ ∧ (∀ s us, us.length = 2 → BindsTo s (ksFn "__init__" qual params b.body scope .none kV doc pm an (.ref cda) ct cc) ⟨us, []⟩ ([b.slf, b.par].zip us))
  cd : codeIn K (.ref cda) qual = true
  code : ∃ ccl cdd vs ccs file tf, K.lookup cda = some ⟨ccl, cdd, .fields vs, ccs⟩ ∧ vs[2]? = some (.str file tf) ∧ ((prog.main.file : Str) == file) = true
  cell : ∃ cl cld csl, K.lookup cc = some ⟨cl, cld, .cell (some (.ref C)), csl⟩
  head : (params.posonlyargs ++ params.args).head?.map (·.arg) = some b.slf
  ne : b.slf ≠ b.par
  kind : scope.kind = .function
  co : scope.isCoroutine = false
  gen : scope.isGenerator = false
  nocell : ∀ x ∈ scope.names, x.2 ≠ .cell
  ksup : scope.names.lookup ("super" : Str) = some .globalImplicit
  kcls : scope.names.lookup ("__class__" : Str) = some .free
  kslf : scope.names.lookup b.slf = some .local
  kpar : scope.names.lookup b.par = some .local
  top : (prog.main.scope.names.lookup ("super" : Str)).isSome = false
  opq : nsIn K cStatics "thirdparty.any" = some none
  sup : ks_superIn K C C "__init__" = some (some (.builtin i))
  subB : subIn K (.ref C) (.type B) = some true
  mroC : mroIn K C (.ref C) = some true
  mroO : mroIn K C (.type "object") = some true
  sa : findIn K (.ref C) "__setattr__" = some (some (.builtin "object.__setattr__"))
  nof : findIn K (.ref C) b.fld = some none
  hi : ∀ L, interactive (ksEnv qual scope L f (.ref cda) cc) = false
  hs1 : ∀ L, swapsWith b.call none b.p5.line (ksEnv qual scope L f (.ref cda) cc) = pure false
  hs2 : ∀ L, swapsWith (.Name b.par b.p8) (some (.Attribute (.Name b.slf b.p6) b.fld b.p7)) b.p9.line (ksEnv qual scope L f (.ref cda) cc) = pure false
  hev : ∀ L, ∃ pl : Sem Bool, eval b.call (ksEnv qual scope L f (.ref cda) cc) = (do
      let ov ← attributeBase (.Call (.Name "super" b.p0) [] [] b.p1) "__init__" (ksEnv qual scope L f (.ref cda) cc) (eval (.Call (.Name "super" b.p0) [] [] b.p1) (ksEnv qual scope L f (.ref cda) cc))
      standAt b.p2.atName
      let (fv, first) ← holding [ov] (getMethod ov "__init__" pl)
      callWith b.p4 fv first (backTo b.p4 (starEach [.Constant (.str b.msg) b.j b.p3] (ksEnv qual scope L f (.ref cda) cc))) [])
  d1 : (b.slf == ("__debug__" : Str)) = false
  d2 : (b.par == ("__debug__" : Str)) = false
section
variable {prog : Program} {w : World} {A : Around} {R : Result → Shared → Prop} {K : Frag} {C f cc cda : Addr} {B i newId : String} {bmB : List Value} {b : SupSt} {qual : Str} {params : Arguments} {scope : Scope}
theorem run_sup (T : SupK prog K C f cc cda B i newId bmB b qual params scope) (KF : KxsFacts B i) (FB : IniF B i) (lets : ∀ y : Value, refuseLoop y "__setattr__" bmB = pure ()) {s : Shared} {a t0 : Addr} {u : Value} {mg mb : Str → Option Value} (hdp : A.depth < recursionLimit) (hKa : K.lookup a = none) (X : K.In s.heap)
    (lim : s.heap.NoLimit) (hg : s.heap.Ns mainGlobals mg) (hm : mg "super" = none) (hb : s.heap.Ns builtinsNs mb) (hb2 : ∀ x : Str, x ≠ "__name__" → mb x = bootBuiltins x) (he : s.heap.get? a = some (HandSPX.excO C t0))
    (fin : ∀ h' tk' dx t1, (∀ c o, c ≠ a → s.heap.get? c = some o → h'.get? c = some o) → s.heap.objs.size ≤ dx → dx ≠ a → h'.get? a = some ({ cls := .ref C, dict := some dx, data := .fields #[.ref t1, .none, .none, .none, .bool false, .none] } : Obj) → h'.Ns1 dx (fun y => if y = b.fld then some u else none) → R (.ok (.ret .none)) { s with heap := h', toks := tk' }) :
    codeAny (model prog w) A (.call (.ref f) ⟨[.ref a, u], []⟩) R s := by
  obtain ⟨nm, q, N, bs, bm, sn, sub, ab, col, dd, k0, k1, k2, k3, k5, hC, hbm⟩ := T.cls
  obtain ⟨oc, od, kV, doc, pm, an, ct, osl, hf, hbind⟩ := T.fn
  obtain ⟨ccl, cdd, vs, ccs, file, tf, hcode, hvs, hfile⟩ := T.code
  obtain ⟨cl, cld, csl, hcell⟩ := T.cell
  obtain ⟨ar, har, hart⟩ : ∃ ar, (params.posonlyargs ++ params.args).head? = some ar ∧ ar.arg = b.slf := by
    have h := T.head
    cases z : (params.posonlyargs ++ params.args).head? with
    | none => rw [z] at h; cases h
    | some ar => rw [z] at h; exact ⟨ar, rfl, Option.some.inj h⟩
  have hcl : clsIn K C = some { name := nm, bases := bs, mro := .ref C :: bm, ns := N, qualname := q, hasDict := true, slotNames := sn, subclasses := sub, abstract := ab, collection := col, hasDel := false } := by unfold clsIn; rw [hC] <;> rfl
  refine ks_codeAny_call_defAt (binds := [(b.slf, .ref a), (b.par, u)]) hdp (X _ _ hf) rfl lim (codeRec_of X T.cd) rfl (hbind s [.ref a, u] rfl) T.nocell (fun x hx => ?_) (fun h1 hns hk1 => ?_) T.co T.gen T.kind
  · simp only [List.mem_cons, List.not_mem_nil, or_false] at hx
    rcases hx with rfl | rfl
    · exact T.kslf
    · exact T.kpar
  have X1 : K.In h1 := X.keeps hk1
  have he1 := hk1 _ _ he
  have vs1 : ([(b.slf, Value.ref a), (b.par, u)] : List (Str × Value)).reverse.lookup b.slf = some (.ref a) := by
    have z : (b.slf == b.par) = false := beq_eq_false_iff_ne.mpr T.ne
    simp [List.lookup, z]
  have vp1 : ([(b.slf, Value.ref a), (b.par, u)] : List (Str × Value)).reverse.lookup b.par = some u := by simp [List.lookup]
  obtain ⟨pl, hev⟩ := T.hev s.heap.objs.size
  show _root_.PySem.wpAt (model prog w) _ (.func b.body (ksEnv qual scope s.heap.objs.size f (.ref cda) cc)) (execs [.Expr b.call b.p5, .Assign [.Attribute (.Name b.slf b.p6) b.fld b.p7] (.Name b.par b.p8) b.p9] (ksEnv qual scope s.heap.objs.size f (.ref cda) cc)) _ _ _
  refine ks_wpAt_execs_cons (ks_wpAt_Expr_any (ks_wpAt_MethodCall (pl := pl) ?_ hev) (T.hi _) (T.hs1 _))
  · refine ks_wpAt_super_base T.ksup T.kcls (by decide) rfl (X1 _ _ hf) rfl har rfl (X1 _ _ hcode) rfl hvs hfile T.top ?_
    refine ks_loadName_global T.kind T.ksup (loadGlobal_builtin (hg.keeps hk1) hm (hb.keeps hk1) ((hb2 "super" (by decide)).trans (by kernel_rfl)) ⟨rfl, ?_⟩)
    refine wpAny_loadName_free T.kind T.kcls rfl ⟨_, X1 _ _ hcell, rfl⟩ ?_
    refine wpAny_loadName_local T.kind (by rw [hart]; exact T.kslf) hns (by rw [hart]; exact vs1) ?_
    refine ks_wpAny_isType_cls (X1 _ _ hC) rfl ⟨rfl, ?_⟩
    refine ks_wpAny_call_super (X1 _ _ hC) rfl he1 rfl (fun c => nofun) (looks_mroIn X1 T.mroC) (fun h2 e2 k2 => ?_)
    have X2 : K.In h2 := X1.keeps k2
    have he2 := k2 _ _ he1
    have I2 : InstAt h2 a (HandSPX.excO C t0) C none := ⟨he2, rfl, rfl, trivial⟩
    have hal : alongIn K "__init__" ((((Value.ref C :: bm) : List Value).dropWhile (· != .ref C)).drop 1) = some (some (.builtin i)) := by
      have z := T.sup
      unfold ks_superIn at z
      rw [hcl] at z
      exact z
    refine kxs_getMethod KF e2 (looks_opaque X2 T.opq) (l₀ := .ref C :: bm) ?_ rfl X2 hal (I2.type.andThen (looks_subIn X2 T.subB)) (ks_ne X2 I2 hcl) (by decide) ?_
    · exact fun A Q E s k q => wpAny_bind ((looks_clsIn X2 hcl) A _ E s k (wpAny_pure q))
    · rw [show starEach [.Constant (.str b.msg) b.j b.p3] (ksEnv qual scope s.heap.objs.size f (.ref cda) cc) = [(false, eval (.Constant (.str b.msg) b.j b.p3) (ksEnv qual scope s.heap.objs.size f (.ref cda) cc))] from rfl]
      refine kxs_callWith (i := i) (x := a) rfl (evalArgs_plain (spliced_cons (wpAny_Constant_str (k := b.j) (pos := b.p3) (spliced_nil ⟨?_, ?_⟩))))
      · exact Heap.get?_push_at rfl rfl
      have k3 : ∀ c o, h2.get? c = some o → (h2.push (kxs_mw i a)).get? c = some o := fun c o z => Heap.get?_push_of_some _ z
      refine call_mw (bm := bm) FB (k3 _ _ (X2 _ _ hC)) (k3 _ _ he2) (Heap.get?_push_at rfl rfl) (by show 1 ≤ sizeLine; rw [sizeLine_eq]; omega) fun h4 t1 k4 he4 => ?_
      have neL : s.heap.objs.size ≠ a := fun z => by
        have y := Heap.lt_size he
        rw [z] at y
        exact absurd y (Nat.lt_irrefl _)
      have kk : ∀ c o, c ≠ a → h1.get? c = some o → h4.get? c = some o := fun c o hc z => k4 c o hc (k3 _ _ (k2 _ _ z))
      have neC : C ≠ a := Ne.symm (ks_ne X2 I2 hcl)
      have X4 : K.In h4 := fun c o z => by
        by_cases hc : c = a
        · rw [hc, hKa] at z
          cases z
        · exact kk c o hc (X1 c o z)
      obtain ⟨oL, es, ep, hL, rL⟩ := hns
      have hns4 : h4.Ns s.heap.objs.size (fun x => ([(b.slf, Value.ref a), (b.par, u)] : List (Str × Value)).reverse.lookup x) := ⟨oL, es, ep, kk _ _ neL hL, rL⟩
      show _root_.PySem.wpAt (model prog w) _ _ (execs [.Assign [.Attribute (.Name b.slf b.p6) b.fld b.p7] (.Name b.par b.p8) b.p9] (ksEnv qual scope s.heap.objs.size f (.ref cda) cc)) _ _ _
      refine wpAt_of_wpAny (wpAny_execs_cons (plainObj_wpAny_Assign_Attribute (wpAny_Name (wpAny_loadName_local T.kind T.kpar hns4 vp1 ?_) T.d2) (T.hs2 _)))
      refine wpAny_Name (wpAny_loadName_local T.kind T.kslf hns4 vs1 ?_) T.d1
      refine set_plain X4 (ox := HandSPX.excO C t1) (od := none) ⟨he4, rfl, rfl, trivial⟩ T.sa ?_
      refine osaX X4 he4 hcl (fun y => by show refuseLoop y "__setattr__" (.ref C :: bm) = _; rw [refuseLoop_ref]; exact refsB_lets lets y bm hbm) T.mroO rfl T.nof fun h5 tk5 dx k5 dn dne he5 n5 => ?_
      refine wpAny_execs_nil ?_
      have up : s.heap.objs.size ≤ dx := Nat.le_trans (Nat.le_of_lt (Heap.lt_size (kk _ _ neL hL))) dn
      exact fin h5 tk5 dx t1 (fun c o hc z => k5 c o hc (kk c o hc (hk1 _ _ z))) up dne he5 n5
end
end PM

/-! raise C(e); defs that raise; their calls -/
namespace PM
open PySem PySem.Spec PyProof.Rows L2
open Builtin Builtin.ObjectAttr
/-- what is known of a class of errors that keep one thing -/
structure ErrK (P : Program) (K : PySem.W.Frag) (C : Addr) (fld : Str) : Prop where
  ex : ∃ (f cc cda : Addr) (B i newId : String) (bmB : List Value) (b : SupSt) (qual : Str) (params : Arguments) (scope : Scope), SupK P K C f cc cda B i newId bmB b qual params scope ∧ b.fld = fld ∧ PySem.W.KxsFacts B i ∧ IniF B i ∧ (∃ (B0 init0 : String) (bm0 : List Value), ExcBaseFacts B0 newId init0 bm0 ∧ LineF B0 bmB) ∧
    (∀ y : Value, refuseLoop y "__setattr__" bmB = pure ()) ∧ PySem.W.findIn K (.ref C) "__init__" = some (some (.ref f)) ∧ PySem.W.typeIn K (.ref f) = some (.type "function")
  keep : PySem.W.keepIn K (.ref C) = true
  exc : PySem.W.subIn K (.ref C) (.type "BaseException") = some true
  typ : PySem.W.typeIn K (.ref C) = some (.type "type")
section
variable {X : Cx} {C : Addr} {fld x : Str} {e : Expr} {te : TE} {p pos : Pos}
def tErr (C : Addr) (fld : Str) (te : TE) : L2.St → Hp → XK → Prop := fun σ H Q => te σ H fun v H1 => ∀ d, H1 d = none → Q (.ref C) (some d) (upd H1 d (.xd [(fld, v)]))
theorem pmk_sup (T : ErrK X.prog X.K C fld) (hm : X.mg "super" = none) (hr : Room 1 X.A) (hg : Gl X x) (gC : X.mg x = some (.ref C)) (he : PE X e te) (hdb : (x == ("__debug__" : Str)) = false := by decide)
    (hs : starEach [e] X.env = (false, eval e X.env) :: starEach [] X.env := by rfl) : PMk X (.Call (.Name x p) [e] [] pos) (tErr C fld te) := by
  intro pins s σ H Q I h
  obtain ⟨f, cc, cda, B, i, newId, bmB, b, qual, params, scope, S, hfl, KF, FB, ⟨B0, init0, bm0, F0, L0⟩, lets, iC, tI⟩ := T.ex
  obtain ⟨nm, q, N, bs, bm, sn, sub, ab, col, dd, k0, k1, k2, k3, k5, hC, hbm⟩ := S.cls
  refine wpAny_Call_Name_kw (ld_glob I hg gC ?_ hdb)
  refine PySem.W.callWith_K (h₀ := X.base) I.ok.mod.kin T.keep ?_ hs (by rfl)
  rw [hs]
  show wpAny _ _ (spliced ((false, eval e X.env) :: backTo pos (starEach [] X.env))) _ _ s
  refine Calls.spliced_cons (thn (he.run pins s σ H _ I h) fun u s1 ⟨v, H1, I1, r1, q1⟩ => Calls.spliced_nil ⟨I1.kIn, ?_⟩)
  show wpAny _ _ (call (.ref C) [u]) _ _ _
  obtain ⟨hp, g, dr, tk, os⟩ := s1
  have rm : Room 0 (X.A.under (.builtin "type.__call__" ⟨.ref C :: [u], []⟩)) := hr.make C [u] []
  have kk : ∀ c o, hp.get? c = some o → ((hp.push (PySem.W.kdv_tup [u])).push (HandSPX.excO C hp.objs.size)).get? c = some o := fun c o z => Heap.get?_push_of_some _ (Heap.get?_push_of_some _ z)
  have ha : ((hp.push (PySem.W.kdv_tup [u])).push (HandSPX.excO C hp.objs.size)).get? (hp.objs.size + 1) = some (HandSPX.excO C hp.objs.size) := by heap_get
  have hKa : X.K.lookup (hp.objs.size + 1) = none := by
    cases z : X.K.lookup (hp.objs.size + 1) with
    | none => rfl
    | some o =>
      have y := Heap.lt_size (I1.kIn _ _ z)
      exact absurd y (by show ¬ (hp.objs.size + 1 < hp.objs.size); omega)
  have up : ∀ c o, X.base.get? c = some o → hp.get? c = some o := I1.bk
  obtain ⟨mb, hb1, hb2⟩ := I1.mod.blt
  refine wpAny_call (call_new F0 ⟨(refsB_has B0 bm hbm).trans L0.hB, (refsB_has _ bm hbm).trans L0.hA, (refsB_has _ bm hbm).trans L0.hN⟩ (I1.kIn _ _ hC) (PySem.W.looks_findIn I1.kIn iC) (fun self => PySem.W.bind_fn I1.kIn self tI) (by show 1 ≤ sizeLine; rw [sizeLine_eq]; omega) ?_)
  refine run_sup S KF FB lets rm.depth hKa (I1.kIn.keeps kk) ((I1.mod.nolimit.keeps up).keeps kk) ((I1.mod.glob.keeps up).keeps kk) hm ((hb1.keeps up).keeps kk) hb2 ha fun h' tk' dx t1 k dn dne he' n1 => ⟨rfl, ?_⟩
  rw [hfl] at n1
  obtain ⟨G, gk, gn⟩ := restrict h' fun c => decide (c ≠ hp.objs.size + 1)
  have g1 : ∀ c, c ≠ hp.objs.size + 1 → G.get? c = h'.get? c := fun c hc => gk c (decide_eq_true hc)
  have g2 : G.get? (hp.objs.size + 1) = none := gn _ (decide_eq_false fun z => z rfl)
  have old : ∀ c o, hp.get? c = some o → G.get? c = some o := fun c o z => by
    have nc : c ≠ hp.objs.size + 1 := fun y => by
      have l := Heap.lt_size z
      rw [y] at l
      exact absurd l (Nat.not_lt.mpr (Nat.le_succ _))
    rw [g1 c nc]
    exact k c o nc (kk c o z)
  have szd : hp.objs.size ≤ dx := by
    have l : ((hp.push (PySem.W.kdv_tup [u])).push (HandSPX.excO C hp.objs.size)).objs.size ≤ dx := dn
    have l2 : hp.objs.size + 1 < ((hp.push (PySem.W.kdv_tup [u])).push (HandSPX.excO C hp.objs.size)).objs.size := Heap.lt_size ha
    exact Nat.le_trans (Nat.le_of_lt (Nat.lt_of_succ_lt l2)) l
  have hn : H1 dx = none := I1.hok.fresh szd
  have J : Inv X pins σ (upd H1 dx (.xd [(fld, v)])) ⟨G, g, dr, tk', os⟩ := I1.laid (t' := tk') (a := dx) (o := .xd [(fld, v)]) (h' := G) old szd ⟨_, n1.at fun o y => (g1 dx dne).trans y, fun y => by
    show RelO (List.lookup y [(fld, v)]) (if y = fld then some u else none)
    by_cases z : y = fld
    · subst z
      rw [if_pos rfl]
      simp [List.lookup]
      exact r1
    · rw [if_neg z]
      have z2 : (y == fld) = false := beq_eq_false_iff_ne.mpr z
      simp [List.lookup, z2]
      exact True.intro⟩
  refine ⟨hp.objs.size + 1, _, _, ⟨G, g, dr, tk', os⟩, _, .ref C, some dx, rfl, J, fun c o z => ?_, g2, he', ⟨rfl, rfl⟩, rfl, rfl, ?_, rfl, I1.bare, raises_own T.exc T.typ, q1 dx hn⟩
  · by_cases nc : c = hp.objs.size + 1
    · have z : G.get? c = some o := z
      rw [nc, g2] at z
      cases z
    · exact (g1 c nc).symm.trans z
  · rw [upd_ne (Ne.symm dne)]
    exact I1.hok.fresh (Nat.le_succ _)
end
end PM

/-! raise, calls of defs that raise, such defs -/
namespace PM
open PySem PySem.Spec PyProof.Rows L2
def mRaise (c : Nat) (f : Str) (m : ME) : MS := fun ρ => (m ρ).bind fun x ρ1 => .exc (.own c [(f, x.1)]) ρ1
/-- a wish that looks at no slot -/
abbrev WF (E : XK) : WX := fun cls d _ H => E cls d H
def mCallX (f : Fn) (ma : MA) : ME := fun ρ => (ma ρ).bind fun xs ρ1 => match f none xs with
  | .ret x none => .ok x ρ1
  | .exc x none => .exc x ρ1
  | _ => .stuck
theorem XcAt.step {w : Wd} {O O' : Av} {H : Hp} {cls : Value} {d : Option Addr} (h : ∀ a, O' a → O a) : ∀ {x : Xc}, XcAt w O H cls d x → XcAt w O' H cls d x
  | .own c [], z => z
  | .own c (f :: fs), ⟨x1, a, vs, x2, x3, x4, x5⟩ => ⟨x1, a, vs, x2, fun q => x3 (h a q), x4, RepL.step (mono_step h) _ _ x5⟩
  | .ty n, z => z
section
variable {w : Wd} {W : WX} {X : Cx} {c : Nat} {fld x : Str} {e : Expr} {es : List Expr} {m : ME} {ma : MA} {p pos pos' : Pos} {E : XK} {f : Fn} {k n j : Nat}
theorem pms_raise1 (tk : Takes X W) (T : ErrK X.prog X.K (w.cl c) fld) (hm : X.mg "super" = none) (hr : Room 1 X.A) (hg : Gl X x) (gC : X.mg x = some (.ref (w.cl c))) (he : PM X w W e m) (hc : X.calm = true := by rfl) (hdb : (x == ("__debug__" : Str)) = false := by decide)
    (hs : starEach [e] X.env = (false, eval e X.env) :: starEach [] X.env := by rfl) : PMS X w W (.Raise (some (.Call (.Name x p) [e] [] pos)) none pos') (mRaise c fld m) := by
  obtain ⟨te, pe, se⟩ := he
  refine ⟨_, ps_raise hc tk (pmk_sup T hm hr hg gC pe hdb hs), fun F O ρ σ H E hw R hh => ?_⟩
  refine se.bindS hw R hh fun y v ρ1 O1 H1 st1 R1 rv h1 d hd => ?_
  subst hw
  obtain ⟨O2, s2, R2, r2, s3⟩ := VlAt.release st1 R1 R.doh rv
  have g : Grow H1 (upd H1 d (.xd [(fld, v)])) := Grow.new hd
  refine h1 O2 σ _ _ _ (s3.trans g.step) (R2.grow g) ⟨rfl, d, [v], rfl, R2.fresh hd, upd_same, ?_⟩
  simp only [List.map_cons, List.map_nil, RepL]
  exact ⟨v, [], rfl, Rep.step g.step _ _ r2, rfl⟩
theorem sim_callX {ta : TA} (ha : SimA w (WF E) ta ma) (hn : ∀ (ρ ρ1 : En) (xs : List D), ma ρ = .ok xs ρ1 → xs.length = k) : Sim w (WF E) (tCall (spOf w k f) [] E ta) (mCallX f ma) := fun F O ρ σ H Q hw R hh => by
  subst hw
  have key : Hold F (WF E) O σ H (RV F σ H) Q ((ma ρ).bind fun xs ρ1 => if xs.length = k then (match f none xs with
    | .ret x none => .ok x ρ1
    | .exc x none => .exc x ρ1
    | _ => .stuck) else .stuck) := by
    unfold mCallX at hh
    cases q : ma ρ with
    | ok xs ρ1 =>
      rw [q] at hh
      show Hold F (WF E) O σ H (RV F σ H) Q (if xs.length = k then _ else _)
      rw [if_pos (hn ρ ρ1 xs q)]
      exact hh
    | exc x ρ1 => rw [q] at hh; exact hh
    | stuck => rw [q] at hh; exact hh
  refine ha.bind rfl R key fun xs vs ρ1 O1 H1 st1 R1 rs h1 => ?_
  split at h1
  · rename_i hk
    show spOf _ _ _ (vs ++ []) H1 Q E
    rw [List.append_nil]
    refine ⟨O1, none, xs, R1.dom, by rw [rs.length]; exact hk, rs, ?_⟩
    split at h1
    · rename_i z hz
      rw [hz]
      refine ⟨rfl, fun H' v sy rf => ?_⟩
      have g : Grow H1 H' := fun a o e => sy.kept a o (fun q => by cases q.1) e
      obtain ⟨d, b⟩ := z
      cases b with
      | false => exact h1 O1 H' v (st1.trans g.step) (R1.grow g) rf.1
      | true =>
        obtain ⟨a, m, e1, e2, e3, e4, _⟩ := rf
        exact h1 (ins O1 a) H' v (st1.trans (ins_step g e2)) (R1.guard g e2 e4.some) ⟨a, m, e1, st1.none_back e2, .inr rfl, e3, e4, R1.apart e2⟩
    · rename_i z hz
      rw [hz]
      refine ⟨rfl, fun H' cls d sy _ xa => ?_⟩
      have g : Grow H1 H' := fun a o e => sy.kept a o (fun q => by cases q.1) e
      exact h1 O1 H' cls d (st1.trans g.step) (R1.grow g) xa
    · exact h1.elim
  · exact h1.elim
/-- a def of the module that may raise -/
def DefX (P : Program) (wo : World) (K : PySem.W.Frag) (mg : Str → Option Value) (base : Heap) (w : Wd) (x : Str) (n j : Nat) (f : Fn) : Prop :=
  ∃ a fd ps, ps.length = n ∧ FnOk P wo K mg base (L2.CX P wo) j a fd ps (spOf w n f) ∧ mg x = some (.ref a) ∧ PySem.W.keepIn K (.ref a) = true ∧ Binds K fd ps []
theorem pm_callX (tk : Takes X (WF E)) (F : DefX X.prog X.w X.K X.mg X.base w x n j f) (hr : Room j X.A) (hg : Gl X x) (ha : PMA X w (WF E) (e :: es) ma) (hn : Len ma n) (hd : (x == ("__debug__" : Str)) = false := by decide) (he : starEach (e :: es) X.env = (false, eval e X.env) :: starEach es X.env := by rfl) (hpl : (backTo pos (starEach es X.env)).any (·.1) = false := by rfl) :
    PM X w (WF E) (.Call (.Name x p) (e :: es) [] pos) (mCallX f ma) := by
  obtain ⟨a, fd, ps, hl, F, hm, hk, hb⟩ := F
  obtain ⟨ta, pa, sa⟩ := ha
  exact ⟨_, pe_call F hr hg hm hk hb .nil (passes_call tk fun _ _ _ _ z => z) pa hd he hpl, sim_callX sa hn⟩
end
section
variable {P : Program} {wo : World} {K : PySem.W.Frag} {mg : Str → Option Value} {base : Heap} {w : Wd}
theorem fn_okX {x qual : Str} {st : Stmt} {f : Addr} {fd : FuncData} {N ps : List Str} {k : Nat} {m : MS} (F : Fun K x qual st f fd) (S : FnScope N ps (defScope st)) (hl : ps.length ≤ N.length)
    (hb : ∀ (cdv : Value) (A : Around) (outer : List Env) (s : Shared) (H : Hp) (E : XK), Room k (A.deeper (envOfC qual (defScope st) s.heap.objs.size f cdv)) → Takes (cxOf (L2.CX P wo) P wo K mg base N qual (defScope st) f cdv A outer s H E) (WF E) →
      PassesOwn (model P wo) (cxOf (L2.CX P wo) P wo K mg base N qual (defScope st) f cdv A outer s H E).A (cxOf (L2.CX P wo) P wo K mg base N qual (defScope st) f cdv A outer s H E).env (cxOf (L2.CX P wo) P wo K mg base N qual (defScope st) f cdv A outer s H E).xe →
      PMSs (cxOf (L2.CX P wo) P wo K mg base N qual (defScope st) f cdv A outer s H E) w (WF E) (defBody st) m) : FnOk P wo K mg base (L2.CX P wo) (k + 1) f fd ps (spOf w ps.length (fnSem N.length ps.length m)) := by
  have len : ∀ vs H Q E, spOf w ps.length (fnSem N.length ps.length m) vs H Q E → vs.length = ps.length := fun vs H Q E h => by
    obtain ⟨O, om, ds, _, hl, _⟩ := h
    exact hl
  refine F.okX S len fun cdv A outer s H vs Q E hr h => ?_
  obtain ⟨t, p, sm⟩ := hb cdv A outer s H E hr (takes_of rfl rfl rfl rfl) (passes_of rfl)
  exact ⟨t, p, body_ok sm (fun _ _ _ _ z => z) hl h⟩
/-- a method that may raise -/
def MthX (P : Program) (wo : World) (K : PySem.W.Frag) (mg : Str → Option Value) (base : Heap) (w : Wd) (g : Addr) (n j : Nat) (f : Fn) : Prop := FnR P wo K mg base (L2.CX P wo) j g (spOf w n f)
theorem mth_ofX {g : Addr} {j : Nat} {f : Fn} {fd : FuncData} {ps : List Str} (F : FnOk P wo K mg base (L2.CX P wo) j g fd ps (spOf w ps.length f)) (hb : Binds K fd ps []) : MthX P wo K mg base w g ps.length j f :=
  (F.raw hb .nil).imp fun vs H Q E h => by rw [List.append_nil]; exact h
end
end PM

/-! try: body / except X as n: .. / except Y as n: ..; no error leaves it -/
namespace PM
open PySem PySem.Spec PyProof.Rows L2
abbrev Cl := Value × (Addr → Value → Option Addr → TS)
def endsN (i : Nat) (D : Ends) : Ends := { nx := fun σ' H' => D.nx (σ'.set i none) H', rt := D.rt, bk := fun σ' H' => D.bk (σ'.set i none) H', ct := fun σ' H' => D.ct (σ'.set i none) H' }
/-- what the clauses wish -/
def wN (K : PySem.W.Frag) (i : Nat) (D : Ends) : List Cl → WX
  | [] => W0
  | q :: r => fun cls d σ H => ∃ b, PySem.W.exmOne K cls q.1 = some b ∧ (b = true → ∀ a, H a = none → q.2 a cls d (endsN i D) (σ.set i (some (.ref a))) H) ∧ (b = false → wN K i D r cls d σ H)
inductive HdN (X : Cx) (n : Str) : List ExceptHandler → List Cl → Prop
  | nil : HdN X n [] []
  | cons {x : Str} {q : Cl} {st : Stmt} {su : List Stmt} {np ps : Pos} {hs : List ExceptHandler} {l : List Cl} (nm : Names X x q.1)
      (ok : ∀ (a : Addr) (oe : Obj) (cls : Value) (d : Option Addr) (pn : List (Addr × Obj)), Zc cls d oe → (∃ vs, oe.data = .fields vs) → PSs (X.suite a ((a, oe) :: pn)) (st :: su) (q.2 a cls d)) (r : HdN X n hs l) :
      HdN X n (.ExceptHandler (some (.Name x np)) (some n) (st :: su) ps :: hs) (q :: l)
section
variable {X : Cx} {n : Str} {i : Nat} {body : List Stmt} {hd : ExceptHandler} {hs : List ExceptHandler} {l : List Cl} {pos : Pos} {tb : WX → TS}
theorem ps_tryN (es : X.stack = X.env :: X.outer) (ef : X.env.frame = some X.env.locals) (nd : X.N.Nodup) (ei : X.N[i]? = some n) (el : X.env.kindOf n = some .local)
    (hb : ∀ (W : WX) (pn : List (Addr × Obj)) (xe : Value → Shared → Prop), Takes (X.tr pn xe) W → PassesOwn (model X.prog X.w) X.A X.env xe → PSs (X.tr pn xe) body (tb W))
    (hh : HdN X n (hd :: hs) l) : PS X (.Try body (hd :: hs) [] [] pos) (fun D σ H => tb (wN X.K i D l) D σ H) := by
  refine ⟨fun pins s σ H D I wish => ?_⟩
  have xok := I.ok
  have frame : X.A.frames = some (X.env :: X.outer) := xok.frames.trans (congrArg some es)
  refine wpAny_Try_except (wpAny_mono ((hb (wN X.K i D l) (X.pn ++ pins) (fun er t1 => wpAny (model X.prog X.w) X.A (noteFrame er X.env) (fun _ t2 => wpAny (model X.prog X.w) X.A (setFlight er none) (fun _ t3 =>
    wpAny (model X.prog X.w) X.A (handleBy er X.env (hd :: hs)) (SP X pins D) X.xe t3) X.xe t2) X.xe t1) (fun u s' air => ?_) PassesOwn.looking).run [] s σ H D (I.toTry _) wish) (fun fl s1 sp => ?_) (fun _ _ z => z))
  · obtain ⟨a, B, sI, pins', σ1, H1, cls, d, rfl, J0, nb, up, sky, na, eos, ag, wi⟩ := air
    have J : Inv X pins σ1 H1 sI := J0.ofTry xok
    rw [es] at sky
    show wpAny (model X.prog X.w) X.A (noteFrame (.ref a) X.env) _ _ _
    refine Sky.land Zc.steady frame ef sky fun g3 fly up3 => ?_
    have J3 : Inv X pins σ1 H1 { s' with heap := g3 } := J.landed nb fly.1 (up.trans up3) eos ag
    obtain ⟨o3, v3, at3, z3, dt3⟩ := fly.there
    have nofr : a ∉ frs (X.env :: X.outer) := fun mem => by
      obtain ⟨_, o', e', nf⟩ := fly.2.2.1.mem mem
      rw [at3] at e'
      cases e'
      exact nf _ dt3
    have aL : a ≠ X.env.locals := fun z => nofr (List.mem_filterMap.mpr ⟨X.env, by simp, by rw [ef, z]⟩)
    have aF : a ∉ X.fs := fun mem => by
      obtain ⟨ev, hev, q⟩ := List.mem_filterMap.mp mem
      exact nofr (List.mem_filterMap.mpr ⟨ev, by simp [hev], q⟩)
    have S3 := J3.suite at3 dt3 na aL aF
    have each : ∀ {hs' : List ExceptHandler} {l' : List Cl}, HdN X n hs' l' → wN X.K i D l' cls d σ1 H1 → wpAny (model X.prog X.w) X.A (handleBy (.ref a) X.env hs') (SP X pins D) X.xe { s' with heap := g3 } := by
      intro hs' l' hk
      induction hk with
      | nil => exact fun z => z.elim
      | @cons x q st su np ps hs2 l2 nm ok r ih =>
        rintro ⟨b, eb, yes, no⟩
        refine wpAny_handleBy_cons (codeAny_handlers_test ?_) (by intro z; cases z)
        have typ : PySem.W.Looks (model X.prog X.w) g3 (typeOf (.ref a)) cls := fun _ _ _ _ k z => wpAny_typeOf_ref (k _ _ at3) (by rw [z3.1]; exact z)
        have met := PySem.W.exm_one (M := model X.prog X.w) (J3.kIn) typ eb
        have ask : ∀ {Q : Value → Shared → Prop} {E : Value → Shared → Prop}, Q q.1 { s' with heap := g3 } → wpAny (model X.prog X.w) (X.A.mark (some (.ref a))) (eval (.Name x np) X.env) Q E { s' with heap := g3 } := by
          intro Q E z
          obtain ⟨gl, dbg, em | ⟨em, ev, nn⟩⟩ := nm
          · exact ld_glob (X := X.suite a ((a, o3) :: (X.pn ++ pins))) S3 gl em z dbg
          · exact ld_blt (X := X.suite a ((a, o3) :: (X.pn ++ pins))) S3 gl em ev z nn dbg
        refine ask (met.here ?_)
        cases b with
        | false => exact ih (no rfl)
        | true =>
          refine codeAny_handlers_suite_as (HandSPX.lands_againZ fly fun g4 fly4 up4 => ?_)
          have J4 : Inv X pins σ1 H1 { s' with heap := g4 } := J.landed nb fly4.1 ((up.trans up3).trans up4) eos ag
          obtain ⟨o4, v4, at4, z4, dt4⟩ := fly4.there
          have S4 := J4.suite at4 dt4 na aL aF
          refine store_ok (X := X.suite a ((a, o4) :: (X.pn ++ pins))) (v := .ref a) S4 nd ei (.inl el) rfl (fun s5 S5 => ?_) (.inr el)
          refine wpAny_mono ((ok a o4 cls d (X.pn ++ pins) z4 ⟨_, dt4⟩).run [] s5 _ H1 _ S5 (yes rfl a na)) (fun fl s6 sp => ?_) (fun _ _ z => False.elim z)
          have over : ∀ {σ6 : L2.St} {H6 : Hp} {Q : Shared → Prop}, Inv (X.suite a ((a, o4) :: (X.pn ++ pins))) [] σ6 H6 s6 → (∀ s7, Inv X pins (σ6.set i none) H6 s7 → Q s7) →
              wpAny (model X.prog X.w) X.A (do bindName X.env n .none; unbindBehindTheSuite X.env n ps) (fun _ s7 => Q s7) X.xe s6 := fun S6 hq => gone_ok (S6.unsuite xok) nd ei el hq
          cases fl with
          | next =>
            obtain ⟨_, _, S6, z⟩ := sp
            exact over S6 fun _ J7 => ⟨_, _, J7, z⟩
          | brk =>
            obtain ⟨_, _, S6, z⟩ := sp
            exact over S6 fun _ J7 => ⟨_, _, J7, z⟩
          | cont =>
            obtain ⟨_, _, S6, z⟩ := sp
            exact over S6 fun _ J7 => ⟨_, _, J7, z⟩
          | ret u =>
            obtain ⟨_, _, _, S6, rr, z⟩ := sp
            exact over S6 fun _ J7 => ⟨_, _, _, J7, rr, z⟩
    exact each hh wi
  · cases fl with
    | next =>
      obtain ⟨_, _, K1, z⟩ := sp
      exact wpAny_execs_nil ⟨_, _, K1.ofTry xok, z⟩
    | brk =>
      obtain ⟨_, _, K1, z⟩ := sp
      exact ⟨_, _, K1.ofTry xok, z⟩
    | cont =>
      obtain ⟨_, _, K1, z⟩ := sp
      exact ⟨_, _, K1.ofTry xok, z⟩
    | ret u =>
      obtain ⟨_, _, _, K1, rr, z⟩ := sp
      exact ⟨_, _, _, K1.ofTry xok, rr, z⟩
end
end PM

/-! try: return C.m(x) / except A as n: return (z1, n.f1) / except B as n: return (z2, n.f2) -/
namespace PM
open PySem PySem.Spec PyProof.Rows L2
def mTryCm (c : Nat) (fn : Fn) (i0 : Nat) (c1 : Nat) (f1 z1 : Str) (c2 : Nat) (f2 z2 : Str) : MS := fun ρ => match ρ[i0]? with
  | some (.val x) => (match fn none [.cls c, x] with
    | .ret (y, false) none => .ok (.rt (y, false)) ρ
    | .exc (.own k [(f, d)]) none => if k = c1 ∧ f = f1 then .ok (.rt (.tup [.str z1, d], false)) ρ else if k = c2 ∧ f = f2 then .ok (.rt (.tup [.str z2, d], false)) ρ else .stuck
    | _ => .stuck)
  | _ => .stuck
/-- what is known of an error's class in a clause -/
structure ClK (K : PySem.W.Frag) (C : Addr) (f : Str) : Prop where
  xf : XfC K C
  no : PySem.W.findIn K (.ref C) f = some none
  me : PySem.W.exmOne K (.ref C) (.ref C) = some true
def tSuite (i : Nat) (C : Addr) (f z : Str) (a : Addr) (cls : Value) (d : Option Addr) : TS := tRet (tTup (tCons (tC (.str z)) (tCons (tXf a cls d C f (tVar i)) tNil)))
section
variable {F : Fr} {O : Av} {ρ : En} {σ σ' : L2.St} {H H' : Hp} {E : Ends} {i : Nat} {C : Addr} {f z : Str} {dd : D}
theorem suite_ok {a x : Addr} {v : V} (R : Rel F O ρ σ H) (g : Grow H H') (hi : i < σ'.length) (hx : H' x = some (.xd [(f, v)])) (rv : Rep F.w O H' dd v) (hh : HoldS F W0 O H E (.ok (.rt (.tup [.str z, dd], false)) ρ)) :
    tSuite i C f z a (.ref C) (some x) (endsN i E) (σ'.set i (some (.ref a))) H' := by
  refine ⟨.ref a, by rw [List.getElem?_set_self hi], rfl, rfl, x, _, v, rfl, hx, by simp [List.lookup], ?_⟩
  refine ⟨by show 2 ≤ sizeLine; rw [sizeLine_eq]; omega, fun p hp => ?_⟩
  have g2 : Grow H' (upd H' p (.tup [.str z, v])) := Grow.new hp
  have R2 : Rel F O ρ σ (upd H' p (.tup [.str z, v])) := R.grow (g.trans g2)
  refine hh O σ _ (.ref p) (g.trans g2).step R2 ?_
  show Rep F.w O _ (.tup [.str z, dd]) (.ref p)
  simp only [Rep, RepL]
  exact ⟨p, [.str z, v], rfl, .inl ⟨(R.grow g).fresh hp, upd_same⟩, _, _, rfl, rfl, _, _, rfl, Rep.step g2.step _ _ rv, rfl⟩
end
section
variable {w : Wd} {X : Cx} {c c1 c2 i i0 k : Nat} {f1 z1 f2 z2 : Str} {g : Addr} {fn : Fn} {o x m n x1 x2 : Str} {q0 q1 q2 q3 q4 q5 r0 r1 r2 r3 r4 r5 s0 s1 s2 s3 s4 s5 pos : Pos} {j1 j2 : Nat} {t1 t2 : Nat} {pl : Sem Bool} {pl0 : Pos}
theorem pms_tryCm (hK : w.K = X.K) (hp : CmOk w c m g) (Fn : MthX X.prog X.w X.K X.mg X.base w g 2 k fn) (hr : Room k X.A) (hg : Gl X o) (hm : X.mg o = some (.ref (w.cl c))) (K1 : ClK w.K (w.cl c1) f1) (K2 : ClK w.K (w.cl c2) f2) (e21 : PySem.W.exmOne w.K (.ref (w.cl c2)) (.ref (w.cl c1)) = some false)
    (N1 : Names X x1 (.ref (w.cl c1))) (N2 : Names X x2 (.ref (w.cl c2))) (nd : X.N.Nodup) (ei : X.N[i]? = some n) (e0 : X.N[i0]? = some x) (el : X.env.kindOf n = some .local) (es : X.stack = X.env :: X.outer := by rfl) (ef : X.env.frame = some X.env.locals := by rfl)
    (hv : Vis X.env.scope x := by first | exact Or.inl rfl | exact Or.inr (Or.inl rfl) | exact Or.inr (Or.inr rfl)) (hv2 : Vis X.env.scope n := by first | exact Or.inl rfl | exact Or.inr (Or.inl rfl) | exact Or.inr (Or.inr rfl))
    (hd : (o == ("__debug__" : Str)) = false := by decide) (hd2 : (x == ("__debug__" : Str)) = false := by decide) (hd3 : (x == ("__classdict__" : Str)) = false := by decide) (hd4 : (n == ("__debug__" : Str)) = false := by decide) (hd5 : (n == ("__classdict__" : Str)) = false := by decide)
    (ht : eval (.Call (.Attribute (.Name o q0) m q1) [.Name x q2] [] q3) X.env = (do
      let ov ← eval (.Name o q0) X.env
      standAt q1.atName
      let (f, first) ← holding [ov] (getMethod ov m pl)
      callWith q3 f first (backTo q3 (starEach [.Name x q2] X.env)) (backToKw q3 (keywordEach [] X.env))) := by rfl)
    (ha1 : attributeBase (.Name n r1) f1 X.env (eval (.Name n r1) X.env) = eval (.Name n r1) X.env := by rfl) (ha2 : attributeBase (.Name n s1) f2 X.env (eval (.Name n s1) X.env) = eval (.Name n s1) X.env := by rfl) :
    PMS X w W0 (.Try [.Return (some (.Call (.Attribute (.Name o q0) m q1) [.Name x q2] [] q3)) q4] [.ExceptHandler (some (.Name x1 r4)) (some n) [.Return (some (.Tuple [.Constant (.str z1) j1 r0, .Attribute (.Name n r1) f1 r2] t1 r3)) r5] q5, .ExceptHandler (some (.Name x2 s4)) (some n) [.Return (some (.Tuple [.Constant (.str z2) j2 s0, .Attribute (.Name n s1) f2 s2] t2 s3)) s5] pos] [] [] pl0) (mTryCm c fn i0 c1 f1 z1 c2 f2 z2) := by
  obtain ⟨mc, p, rd, cm⟩ := hp.ex
  rw [hK] at rd cm
  refine ⟨_, ps_tryN (tb := fun W => tRet (ClX.tCMeth (w.cl c) (spOf w 2 fn) (fun cls d H => ∀ σ : L2.St, σ.length = X.N.length → W cls d σ H) (tC (.ref (w.cl c))) (tCons (tVar i0) tNil))) (l := [(.ref (w.cl c1), tSuite i (w.cl c1) f1 z1), (.ref (w.cl c2), tSuite i (w.cl c2) f2 z2)]) es ef nd ei el (fun W pn xe tk po => ?_) ?_, fun F O ρ σ H E hw R hh => ?_⟩
  · have tk' : Passes (L2.CX X.prog X.w) (X.tr pn xe) (fun cls d H => ∀ σ : L2.St, σ.length = X.N.length → W cls d σ H) := fun pins σ H s er s' I cx => tk er s' (XE.of_call I (fun cls d H' z => z σ I.len) cx)
    have pa : PA (X.tr pn xe) [.Name x q2] (tCons (tVar i0) tNil) := pa_cons (pe_var e0 hv hd2 hd3) pa_nil
    exact pss_one (ps_ret (ClX.pe_cmeth (X := X.tr pn xe) (pl := pl) (pe_glob (X := X.tr pn xe) (v := .ref (w.cl c)) hg hm rfl hd) rd cm Fn hr tk' pa rfl rfl ht))
  · rw [hK] at K1 K2
    refine .cons N1 (fun a oe cls d pn hz hf => ?_) (.cons N2 (fun a oe cls d pn hz hf => ?_) .nil)
    · exact pss_one (ps_ret (pe_tup (pa_cons pe_str (pa_cons (pe_xf K1.xf K1.no hz hf (pe_var ei hv2 hd4 hd5) ha1) pa_nil))))
    · exact pss_one (ps_ret (pe_tup (pa_cons pe_str (pa_cons (pe_xf K2.xf K2.no hz hf (pe_var ei hv2 hd4 hd5) ha2) pa_nil))))
  · subst hw
    unfold mTryCm at hh
    split at hh
    · rename_i y ey
      obtain ⟨v, ev, rv⟩ := R.slot i0 _ ey
      refine ⟨rfl, v, ev, ?_⟩
      refine ⟨O, none, [.cls c, y], R.dom, rfl, ?_, ?_⟩
      · show RepL F.w O H [.cls c, y] [.ref (F.w.cl c), v]
        simp only [RepL, Rep]
        exact ⟨_, _, rfl, rfl, v, [], rfl, rv, rfl⟩
      · cases q : fn none [.cls c, y] with
        | stuck => rw [q] at hh; exact hh
        | ret r om =>
          rw [q] at hh
          obtain ⟨y', b⟩ := r
          cases b with
          | true => exact hh.elim
          | false =>
            cases om with
            | some _ => exact hh.elim
            | none => exact ⟨rfl, fun H' v' sy rf => hh O σ H' v' (Grow.step fun a o e => sy.kept a o (fun q => by cases q.1) e) (R.grow fun a o e => sy.kept a o (fun q => by cases q.1) e) rf.1⟩
        | exc xc om =>
          rw [q] at hh
          cases xc with
          | ty nn => exact hh.elim
          | own kk fs =>
            cases fs with
            | nil => exact hh.elim
            | cons pq fs =>
              cases fs with
              | cons _ _ => exact hh.elim
              | nil =>
                cases om with
                | some _ => exact hh.elim
                | none =>
                  obtain ⟨ff, dd⟩ := pq
                  refine ⟨rfl, fun H' cls d sy _ xa σ' hl => ?_⟩
                  have gr : Grow H H' := fun a o e => sy.kept a o (fun q => by cases q.1) e
                  obtain ⟨ecl, a, vs, ed, na, hxa, rl⟩ := xa
                  subst ecl
                  subst ed
                  simp only [List.map_cons, List.map_nil, RepL] at rl
                  obtain ⟨vv, _, rfl, rr, rfl⟩ := rl
                  have hi : i < σ'.length := by
                    rw [hl]
                    rcases Nat.lt_or_ge i X.N.length with z | z
                    · exact z
                    · rw [List.getElem?_eq_none z] at ei
                      cases ei
                  have h2 : HoldS F W0 O H E (if kk = c1 ∧ ff = f1 then .ok (.rt (.tup [.str z1, dd], false)) ρ else if kk = c2 ∧ ff = f2 then .ok (.rt (.tup [.str z2, dd], false)) ρ else .stuck) := hh
                  rw [← hK]
                  clear hh q
                  split at h2
                  · rename_i hc
                    obtain ⟨rfl, rfl⟩ := hc
                    exact ⟨true, K1.me, fun _ a' _ => suite_ok R gr hi hxa rr h2, (fun z => by cases z)⟩
                  · split at h2
                    · rename_i hc
                      obtain ⟨rfl, rfl⟩ := hc
                      exact ⟨false, e21, (fun z => by cases z), fun _ => ⟨true, K2.me, fun _ a' _ => suite_ok R gr hi hxa rr h2, (fun z => by cases z)⟩⟩
                    · exact h2.elim
    · exact hh.elim
end
end PM

/-! own lists, further; is None; name += e -/
namespace PM
open PySem PySem.Spec PyProof.Rows L2
section
variable {w : Wd} {W : WX} {X : Cx} {pos p pos' : Pos} {x y z : Str} {a b e : Expr} {ma mb m mk : ME} {mr : MA}
/-! ### is None -/
def isNonD : D → Bool
  | .non => true
  | _ => false
def isND (neg : Bool) (x y : D) : Option Vl := if isNonD y = true then some (dB (if neg then !isNonD x else isNonD x)) else none
theorem rep_non {O : Av} {H : Hp} {d : D} {v : V} (h : Rep w O H d v) : decide (v = .non) = isNonD d := by
  cases d <;> simp only [Rep] at h <;> first | (subst h; rfl) | (obtain ⟨_, _, rfl, _⟩ := h; rfl) | (obtain ⟨_, _, _, rfl, _⟩ := h; rfl)
theorem nonD_eq {d : D} (h : isNonD d = true) : d = .non := by cases d <;> first | rfl | cases h
theorem o2_isN : Op2 w (fun x y H Q => y = .non ∧ Q (.bl (decide (x = .non))) H) (isND false) := fun O H x y z vx vy Q dm e hx hy k => by
  unfold isND at e
  split at e
  · rename_i hn
    cases e
    have ey := nonD_eq hn
    subst ey
    simp only [Rep] at hy
    exact ⟨hy, by rw [rep_non hx]; exact k.bl⟩
  · cases e
theorem o2_notN : Op2 w (fun x y H Q => y = .non ∧ Q (.bl (!decide (x = .non))) H) (isND true) := fun O H x y z vx vy Q dm e hx hy k => by
  unfold isND at e
  split at e
  · rename_i hn
    cases e
    have ey := nonD_eq hn
    subst ey
    simp only [Rep] at hy
    exact ⟨hy, by rw [rep_non hx]; exact k.bl⟩
  · cases e
theorem pm_isN (ha : PM X w W a ma) (hb : PM X w W b mb) (hm : behindInMarks .Is b = false := by rfl) : PM X w W (.Compare a [.Is] [b] pos) (mOp2 (isND false) ma mb) := pm_cmp op_isN o2_isN ha hb hm
theorem pm_notN (ha : PM X w W a ma) (hb : PM X w W b mb) (hm : behindInMarks .IsNot b = false := by rfl) : PM X w W (.Compare a [.IsNot] [b] pos) (mOp2 (isND true) ma mb) := pm_cmp op_notN o2_notN ha hb hm
theorem pmt_isN (ha : PM X w W a ma) (hb : PM X w W b mb) (hm : behindInMarks .Is b = false := by rfl) : PMT X w W (.Compare a [.Is] [b] pos) (mTest (mOp2 (isND false) ma mb)) := pmt_cmp op_isN o2_isN ha hb hm
theorem pmt_notN (ha : PM X w W a ma) (hb : PM X w W b mb) (hm : behindInMarks .IsNot b = false := by rfl) : PMT X w W (.Compare a [.IsNot] [b] pos) (mTest (mOp2 (isND true) ma mb)) := pmt_cmp op_notN o2_notN ha hb hm
/-! ### name += e, ints -/
def mAug (i : Nat) (m : ME) : MS := fun ρ => match ρ[i]? with
  | some (.val (.int k)) => (m ρ).bind fun x ρ1 => (match x.1 with
    | .int j => nxt (setV i (.int (k + j)) ρ1)
    | _ => .stuck)
  | _ => .stuck
theorem pms_aug {i : Nat} (hN : X.N.Nodup) (hi : X.N[i]? = some x) (hx : Loc X.env.scope x) (he : PM X w W e m) (hf : X.fn x = true ∨ X.env.scope.names.lookup x = some .local := by first | exact .inl rfl | exact .inr rfl | assumption) : PMS X w W (.AugAssign (.Name x pos') .Add e pos) (mAug i m) := by
  obtain ⟨te, pe, se⟩ := he
  refine ⟨_, ps_aug hN hi hx pe ip_add hf, fun F O ρ σ H E hw R hh => ?_⟩
  subst hw
  unfold mAug at hh
  split at hh
  · rename_i k ek
    obtain ⟨v, ev, rv⟩ := R.slot i _ ek
    simp only [Rep] at rv
    subst rv
    refine ⟨_, ev, ?_⟩
    refine se.bindS rfl R hh fun y u ρ1 O1 H1 st1 R1 ry h1 => ?_
    obtain ⟨O2, s2, R2, r2, s3⟩ := VlAt.release st1 R1 R.doh ry
    have h1 := h1.later s3
    split at h1
    · rename_i j ej
      rw [ej] at r2
      simp only [Rep] at r2
      cases q : setV i (.int (k + j)) ρ1 with
      | none => rw [q] at h1; exact h1.elim
      | some ρ2 =>
        rw [q] at h1
        exact ⟨k, j, rfl, r2, h1 O2 _ H1 (Step.refl _ _) (setV_rel R2 (by simp only [Rep]) q)⟩
    · exact h1.elim
  · exact hh.elim
/-! ### x, y, z = [], [], k; x, y = k, [] -/
def nio3 (ρ : En) (i j l : Nat) : Bool := notIo (ρ[i]?) && (notIo (ρ[j]?) && (notIo (ρ[l]?) && (decide (i ≠ j) && (decide (i ≠ l) && decide (j ≠ l)))))
def mOwn3 (i j l : Nat) (k : Int) : MS := fun ρ => if nio3 ρ i j l = true then .ok .nx (((ρ.set i (.own (.lst []))).set j (.own (.lst []))).set l (.val (.int k))) else .stuck
theorem muAt_nil {O : Av} {H : Hp} {a : Addr} (h : H a = some (.lst [])) : MuAt w O H a (.lst []) := ⟨[], h, by simp only [RepL]⟩
theorem apart_set {ρ : En} {σ : L2.St} {i : Nat} {c a : Addr} (h : Apart ρ σ a) (ne : a ≠ c) (m : Mu) : Apart (ρ.set i (.own m)) (σ.set i (some (.ref c))) a := fun j s e hm q => by
  by_cases z : i = j
  · subst z
    have lt : i < ρ.length := by
      rcases Nat.lt_or_ge i ρ.length with y | y
      · exact y
      · rw [List.getElem?_eq_none (by simpa using y)] at e
        cases e
    cases q2 : σ[i]? with
    | none =>
      rw [List.getElem?_set_self', q2] at q
      cases q
    | some u =>
      rw [List.getElem?_set_self', q2] at q
      have q : some (some (V.ref c)) = some (some (V.ref a)) := q
      cases q
      exact ne rfl
  · rw [List.getElem?_set_ne z] at e q
    exact h j s e hm q
theorem pms_own3 {i j l k0 : Nat} {k : Int} {px py pz pt pos p1 p2 p3 : Pos} {kt k2 pt2} (hc : X.calm = true) (hN : X.N.Nodup) (hi : X.N[i]? = some x) (hj : X.N[j]? = some y) (hl : X.N[l]? = some z) (hij : i ≠ j) (hil : i ≠ l) (hjl : j ≠ l)
    (hx : X.env.scope.names.lookup x = some .local) (hy : X.env.scope.names.lookup y = some .local) (hz : X.env.scope.names.lookup z = some .local)
    (hw : swappedStores [.Tuple [.Name x px, .Name y py, .Name z pz] kt pt] (.Tuple [.List [] p1, .List [] p2, .Constant (.int k) k0 p3] k2 pt2) X.env = pure (some [x, y, z]))
    (hs : swapsWithSole [.Tuple [.Name x px, .Name y py, .Name z pz] kt pt] (.Tuple [.List [] p1, .List [] p2, .Constant (.int k) k0 p3] k2 pt2) pos.line X.env = pure false := by rfl) :
    PMS X w W (.Assign [.Tuple [.Name x px, .Name y py, .Name z pz] kt pt] (.Tuple [.List [] p1, .List [] p2, .Constant (.int k) k0 p3] k2 pt2) pos) (mOwn3 i j l k) := by
  refine ⟨_, ps_par3 hc hN hi hj hl hij hil hjl hx hy hz (pa_cons (pe_lst pa_nil) (pa_cons (pe_lst pa_nil) (pa_cons pe_int pa_nil))) hw hs, fun F O ρ σ H E hw R hh => ?_⟩
  subst hw
  unfold mOwn3 at hh
  split at hh
  · rename_i hn
    unfold nio3 at hn
    simp only [Bool.and_eq_true] at hn
    obtain ⟨n1, n2, n3, _⟩ := hn
    refine ⟨by show 0 ≤ sizeLine; exact Nat.zero_le _, fun c1 f1 => ⟨by show 0 ≤ sizeLine; exact Nat.zero_le _, fun c2 f2 => ⟨_, _, _, rfl, ?_⟩⟩⟩
    have g1 : Grow H (upd H c1 (.lst [])) := Grow.new f1
    have g2 : Grow (upd H c1 (.lst [])) (upd (upd H c1 (.lst [])) c2 (.lst [])) := Grow.new f2
    have ne : c2 ≠ c1 := fun q => by rw [q, upd_same] at f2; cases f2
    have R1 : Rel F (ins O c1) ρ σ (upd H c1 (.lst [])) := R.guard g1 f1 (by rw [upd_same]; simp)
    have R2 : Rel F (ins (ins O c1) c2) ρ σ (upd (upd H c1 (.lst [])) c2 (.lst [])) := R1.guard g2 f2 (by rw [upd_same]; simp)
    have m1 : MuAt F.w (ins (ins O c1) c2) (upd (upd H c1 (.lst [])) c2 (.lst [])) c1 (.lst []) := muAt_nil (by rw [upd_ne (Ne.symm ne), upd_same])
    have m2 : MuAt F.w (ins (ins O c1) c2) (upd (upd H c1 (.lst [])) c2 (.lst [])) c2 (.lst []) := muAt_nil upd_same
    have R3 := R2.setO (i := i) m1 (.inl (.inr rfl)) (R.freshE f1) (R.apart f1) n1
    have nj : notIo ((ρ.set i (.own (.lst [])))[j]?) = true := by rw [List.getElem?_set_ne hij]; exact n2
    have R4 := R3.setO (i := j) m2 (.inr rfl) (R1.freshE f2) (apart_set (R1.apart f2) ne _) nj
    have nl : notIo (((ρ.set i (.own (.lst []))).set j (.own (.lst [])))[l]?) = true := by rw [List.getElem?_set_ne hjl, List.getElem?_set_ne hil]; exact n3
    have R5 := R4.setV (i := l) (d := .int k) (v := .int k) (by simp only [Rep]) nl
    exact hh _ _ _ ((ins_step g1 f1).trans (ins_step g2 f2)) R5
  · exact hh.elim
def mOwn2 (i j : Nat) (k : Int) : MS := fun ρ => if (notIo (ρ[i]?) && (notIo (ρ[j]?) && decide (i ≠ j))) = true then .ok .nx ((ρ.set i (.val (.int k))).set j (.own (.lst []))) else .stuck
theorem apart_setV {ρ : En} {σ : L2.St} {i : Nat} {d : D} {u : V} {a : Addr} (h : Apart ρ σ a) : Apart (ρ.set i (.val d)) (σ.set i (some u)) a := fun j s e hm q => by
  by_cases z : i = j
  · subst z
    rw [List.getElem?_set_self'] at e
    cases q2 : ρ[i]? with
    | none => rw [q2] at e; cases e
    | some t =>
      rw [q2] at e
      have e : some (Sl.val d) = some s := e
      cases e
      cases hm
  · rw [List.getElem?_set_ne z] at e q
    exact h j s e hm q
theorem pms_own2 {i j k0 : Nat} {k : Int} {px py pt pos p1 p3 : Pos} {kt k2 pt2} (hc : X.calm = true) (hN : X.N.Nodup) (hi : X.N[i]? = some x) (hj : X.N[j]? = some y) (hij : i ≠ j)
    (hx : X.env.scope.names.lookup x = some .local) (hy : X.env.scope.names.lookup y = some .local)
    (hw : swappedStores [.Tuple [.Name x px, .Name y py] kt pt] (.Tuple [.Constant (.int k) k0 p3, .List [] p1] k2 pt2) X.env = pure (some [x, y]))
    (hs : swapsWithSole [.Tuple [.Name x px, .Name y py] kt pt] (.Tuple [.Constant (.int k) k0 p3, .List [] p1] k2 pt2) pos.line X.env = pure false := by rfl) :
    PMS X w W (.Assign [.Tuple [.Name x px, .Name y py] kt pt] (.Tuple [.Constant (.int k) k0 p3, .List [] p1] k2 pt2) pos) (mOwn2 i j k) := by
  refine ⟨_, ps_par hc hN hi hj hij hx hy (pa_cons pe_int (pa_cons (pe_lst pa_nil) pa_nil)) hw hs, fun F O ρ σ H E hw R hh => ?_⟩
  subst hw
  unfold mOwn2 at hh
  split at hh
  · rename_i hn
    simp only [Bool.and_eq_true] at hn
    obtain ⟨n1, n2, _⟩ := hn
    refine ⟨by show 0 ≤ sizeLine; exact Nat.zero_le _, fun c1 f1 => ⟨_, _, rfl, ?_⟩⟩
    have g1 : Grow H (upd H c1 (.lst [])) := Grow.new f1
    have R1 : Rel F (ins O c1) ρ σ (upd H c1 (.lst [])) := R.guard g1 f1 (by rw [upd_same]; simp)
    have R2 := R1.setV (i := i) (d := .int k) (v := .int k) (by simp only [Rep]) n1
    have nj : notIo ((ρ.set i (.val (.int k)))[j]?) = true := by rw [List.getElem?_set_ne hij]; exact n2
    have R3 := R2.setO (i := j) (muAt_nil upd_same) (.inr rfl) (R.freshE f1) (apart_setV (R.apart f1)) nj
    exact hh _ _ _ (ins_step g1 f1) R3
  · exact hh.elim
end
end PM

namespace PM
open PySem PySem.Spec PyProof.Rows L2
section
variable {w : Wd} {W : WX} {X : Cx} {pos p p1 p2 pos' apos : Pos} {x y z : Str} {a b e k : Expr} {ma mb m mk : ME} {mr : MA}
/-! ### own list == [], != [] -/
def mEq0O (neg : Bool) (i : Nat) : ME := fun ρ => match muOf i ρ with
  | some (_, .lst ds) => lift (if neg then neD (.lst ds) (.lst []) else eqD (.lst ds) (.lst [])) ρ
  | _ => .stuck
theorem eqD_bl {x y : D} {z : Vl} (h : eqD x y = some z) : ∃ b, z = dB b := by
  unfold eqD at h
  cases q1 : pyOk x with
  | none => rw [q1] at h; cases h
  | some u =>
    rw [q1] at h
    cases q2 : pyOk y with
    | none => rw [q2] at h; cases h
    | some v => rw [q2] at h; cases h; exact ⟨_, rfl⟩
theorem neD_bl {x y : D} {z : Vl} (h : neD x y = some z) : ∃ b, z = dB b := by
  unfold neD at h
  cases q1 : pyOk x with
  | none => rw [q1] at h; cases h
  | some u =>
    rw [q1] at h
    cases q2 : pyOk y with
    | none => rw [q2] at h; cases h
    | some v => rw [q2] at h; cases h; exact ⟨_, rfl⟩
theorem rep_own {O : Av} {H : Hp} {ds : List D} {c : Addr} (h : MuAt w O H c (.lst ds)) : Rep w bot H (.lst ds) (.ref c) := by
  obtain ⟨vs, h1, h2⟩ := h
  simp only [Rep]
  exact ⟨c, vs, rfl, ⟨fun z => z, h1⟩, RepL.step bot_step ds vs h2⟩
theorem sim_eq0O (neg : Bool) (i : Nat) {r : R2} (hr : Op2 w r (if neg then neD else eqD)) : Sim w W (tOp r (tVar i) (tLst tNil)) (mEq0O neg i) := fun F O ρ σ H Q hw R hh => by
  subst hw
  unfold mEq0O at hh
  split at hh
  · rename_i s ds q
    obtain ⟨e0, g0⟩ := muOf_some q
    obtain ⟨c, ec, oc, mc⟩ := R.muAt e0 g0
    refine ⟨.ref c, ec, by show 0 ≤ sizeLine; exact Nat.zero_le _, fun d hd => ?_⟩
    have gr : Grow H (upd H d (.lst [])) := Grow.new hd
    have hne : c ≠ d := fun z => by
      obtain ⟨vs, h1, _⟩ := mc
      rw [z, hd] at h1
      cases h1
    have mc2 : MuAt F.w O (upd H d (.lst [])) c (.lst ds) := mc.step gr.step (by rw [upd_ne hne])
    have rd : Rep F.w bot (upd H d (.lst [])) (.lst []) (.ref d) := by
      simp only [Rep]
      exact ⟨d, [], rfl, ⟨fun z => z, upd_same⟩, by simp only [RepL]⟩
    have key : ∀ zz, (if neg then neD else eqD) (.lst ds) (.lst []) = some zz → Hold F W O σ H (RV F σ H) Q (.ok zz ρ) → (∃ b, zz = dB b) → r (.ref c) (.ref d) (upd H d (.lst [])) Q := by
      rintro zz ez hz ⟨b, rfl⟩
      refine hr bot _ _ _ _ _ _ Q (fun _ h => h.elim) ez (rep_own mc2) rd fun v H' g2 gv => ?_
      exact (hz.go gr.step (R.grow gr)) v H' g2 (by simp only [GoAt, dB, Rep] at gv ⊢; exact gv)
    cases neg with
    | true =>
      cases q2 : neD (.lst ds) (.lst []) with
      | none => rw [if_pos rfl, q2] at hh; exact hh.elim
      | some zz => rw [if_pos rfl, q2] at hh; exact key zz q2 hh (neD_bl q2)
    | false =>
      cases q2 : eqD (.lst ds) (.lst []) with
      | none => rw [if_neg (by decide), q2] at hh; exact hh.elim
      | some zz => rw [if_neg (by decide), q2] at hh; exact key zz q2 hh (eqD_bl q2)
  · exact hh.elim
section
variable {kk : Nat} (i : Nat) (hK : w.K = X.K) (hr : Room kk X.A) (hN : X.N[i]? = some x) (hv : Vis X.env.scope x) (hd : (x == ("__debug__" : Str)) = false) (hcd : (x == ("__classdict__" : Str)) = false)
include hK hr hN hv hd hcd
theorem pm_eq0O' : PM X w W (.Compare (.Name x p) [.Eq] [.List [] p1] pos) (mEq0O false i) := ⟨_, pe_cmpR (op_eqD hr.units) (pe_var hN hv hd hcd) (pe_lst pa_nil) (nomark _), sim_eq0O false i (hK ▸ o2_eqD)⟩
theorem pm_ne0O' : PM X w W (.Compare (.Name x p) [.NotEq] [.List [] p1] pos) (mEq0O true i) := ⟨_, pe_cmpR (op_neD hr.units) (pe_var hN hv hd hcd) (pe_lst pa_nil) (nomark _), sim_eq0O true i (hK ▸ o2_neD)⟩
theorem pmt_eq0O' : PMT X w W (.Compare (.Name x p) [.Eq] [.List [] p1] pos) (mTest (mEq0O false i)) := ⟨_, pt_cmpR (op_eqD hr.units) (pe_var hN hv hd hcd) (pe_lst pa_nil) (nomark _), simt_test (sim_eq0O false i (hK ▸ o2_eqD))⟩
theorem pmt_ne0O' : PMT X w W (.Compare (.Name x p) [.NotEq] [.List [] p1] pos) (mTest (mEq0O true i)) := ⟨_, pt_cmpR (op_neD hr.units) (pe_var hN hv hd hcd) (pe_lst pa_nil) (nomark _), simt_test (sim_eq0O true i (hK ▸ o2_neD))⟩
end
/-! ### own[lo:hi] -/
def mSlO (i : Nat) (lo hi : MO) : ME := fun ρ => match muOf i ρ with
  | some _ => (lo ρ).bind fun u ρ2 => (hi ρ2).bind fun v ρ3 => (match muOf i ρ3 with
    | some (_, .lst ds) => .ok (.lst (cutD ds u v), true) ρ3
    | _ => .stuck)
  | _ => .stuck
theorem pm_slO (i : Nat) (hK : w.K = X.K) {lo hi : Option Expr} {ml mh : MO} (hl : PMO X w W lo ml) (hh : PMO X w W hi mh) (hN : X.N[i]? = some x := by rfl) (hv : Vis X.env.scope x := by first | exact Or.inl rfl | exact Or.inr (Or.inl rfl) | exact Or.inr (Or.inr rfl)) (hd : (x == ("__debug__" : Str)) = false := by decide)
    (hcd : (x == ("__classdict__" : Str)) = false := by decide) : PM X w W (.Subscript (.Name x p) (.Slice lo hi none p2) pos) (mSlO i ml mh) := by
  obtain ⟨tl, pl, sl⟩ := hl
  obtain ⟨th, ph, sh⟩ := hh
  refine ⟨_, pe_slice sl_list (pe_var hN hv hd hcd) pl ph, fun F O ρ σ H Q hw R hh => ?_⟩
  subst hw
  unfold mSlO at hh
  split at hh
  · rename_i sm q
    obtain ⟨e0, g0⟩ := muOf_some (s := sm.1) (m := sm.2) q
    obtain ⟨c, ec, oc, mc⟩ := R.muAt e0 g0
    refine ⟨.ref c, ec, ?_⟩
    refine sl.bind rfl R hh fun u ρ2 O2 H2 st2 R2 h2 => ?_
    refine sh.bind rfl R2 (h2.laterV st2) fun v ρ3 O3 H3 st3 R3 h3 => ?_
    split at h3
    · rename_i s ds q3
      obtain ⟨e1, g1⟩ := muOf_some q3
      obtain ⟨c', ec', oc', vs, hvs, hr⟩ := R3.muAt e1 g1
      rw [ec] at ec'
      cases ec'
      exact ⟨c, vs, rfl, .inl (.inl hvs), fun d hd => (Hold.go h3 st3 R3).newL (hr.cut u v) hd⟩
    · exact h3.elim
  · exact hh.elim
/-! ### own.extend(e) -/
def mExtend (i : Nat) (mr : MA) : ME := mBehind i mr fun ys s m ρ1 => match m, ys with
  | .lst ds, [.lst es] => if ds.length + es.length ≤ sizeLine then .ok (.non, false) (ρ1.set i (s.put (.lst (ds ++ es)))) else .stuck
  | _, _ => .stuck
theorem pm_extend (i : Nat) (hK : w.K = X.K) (ha : PMA X w W [e] mr) (hN : X.N[i]? = some x := by rfl) (hv : Vis X.env.scope x := by first | exact Or.inl rfl | exact Or.inr (Or.inl rfl) | exact Or.inr (Or.inr rfl)) (hd : (x == ("__debug__" : Str)) = false := by decide)
    (hcd : (x == ("__classdict__" : Str)) = false := by decide) (hbase : attributeBase (.Name x p) "extend" X.env (eval (.Name x p) X.env) = eval (.Name x p) X.env := by rfl)
    (hfew : ((backTo pos (starEach [e] X.env)).all (fun x => !x.1) && (backToKw pos (keywordEach [] X.env)).all (fun x => x.1.isSome)
      && decide ([e].length + ([] : List Keyword).length + (if ([] : List Keyword).isEmpty then 0 else 1) < 30)) = true := by rfl) (hline : (apos.endLine == pos.line) = true := by rfl) (hs : starEach [e] X.env = (false, eval e X.env) :: starEach [] X.env := by rfl) :
    PM X w W (.Call (.Attribute (.Name x p) "extend" apos) [e] [] pos) (mExtend i mr) := by
  obtain ⟨ta, pa, sa⟩ := ha
  refine ⟨_, pe_bm PySem.F.plainAttrs_list PySem.F.slot_list_extend PySem.F.type_list_extend mt_extend (pv i hN hv hd hcd) pa hbase hfew hline hs, ?_⟩
  rw [← hK]
  refine sim_mut sa fun F O ρ σ H a ys us s m Q hw R e1 g1 ea oa ma rs hh => ?_
  split at hh
  · rename_i ds es
    obtain ⟨u, rfl, hu⟩ := repl1 rs
    simp only [Rep] at hu
    obtain ⟨c, zs, rfl, hc, hz⟩ := hu
    obtain ⟨vs, hvs, hr⟩ := ma
    split at hh
    · rename_i hl
      refine ⟨a, c, vs, zs, rfl, rfl, hvs, hc.2, by rw [hr.length, hz.length]; exact hl, ?_⟩
      exact hh.mut (d := .non) R e1 g1 ea oa (hr.append hz) (by simp only [Rep])
    · exact hh.elim
  · exact hh.elim
/-! ### own[k], y = e -/
def mItemPair (i j : Nat) (mk m : ME) : MS := fun ρ => (m ρ).bind fun v ρ1 => match v.1 with
  | .tup [d1, d2] => (match muOf i ρ1 with
    | none => .stuck
    | some _ => (mk ρ1).bind fun kk ρ2 => match muOf i ρ2, kk.1 with
      | some (s, .lst ds), .int n0 => (match ixN ds.length n0 with
        | some n => nxt (setV j d2 (ρ2.set i (s.put (.lst (ds.set n d1)))))
        | none => .stuck)
      | _, _ => .stuck)
  | _ => .stuck
theorem pms_itemPair (i j : Nat) {py pt spos : Pos} {kt} (hK : w.K = X.K) (hc : X.calm = true) (hNd : X.N.Nodup) (he : PM X w W e m) (hk : PM X w W k mk) (hN : X.N[i]? = some x) (hj : X.N[j]? = some y) (hy : Loc X.env.scope y)
    (hvi : Vis X.env.scope x := by first | exact Or.inl rfl | exact Or.inr (Or.inl rfl) | exact Or.inr (Or.inr rfl)) (hf : X.fn y = true ∨ X.env.scope.names.lookup y = some .local := by first | exact .inl rfl | exact .inr rfl) (hd : (x == ("__debug__" : Str)) = false := by decide) (hcd : (x == ("__classdict__" : Str)) = false := by decide)
    (ha : ∀ u, assign (.Subscript (.Name x p) k pos) X.env u = (do
      let ov ← holding [u] (eval (.Name x p) X.env)
      let iv ← holding [u, ov] (eval k X.env)
      standAt pos
      holding [u, ov, iv] (setItem ov iv u)
      release [u, ov, iv] []) := by intro _; rfl)
    (q1 : (assignEach [.Subscript (.Name x p) k pos, .Name y py] X.env).length = 2 := by rfl) (q2 : (assignEach [.Subscript (.Name x p) k pos, .Name y py] X.env).findIdx? (·.1) = none := by rfl)
    (q3 : (assignEach [.Subscript (.Name x p) k pos, .Name y py] X.env).map (·.2) = assign (.Subscript (.Name x p) k pos) X.env :: (assignEach [.Name y py] X.env).map (·.2) := by rfl) (q4 : (assignEach [.Name y py] X.env).map (·.2) = assign (.Name y py) X.env :: (assignEach [] X.env).map (·.2) := by rfl)
    (hs : swapsWithSole [.Tuple [.Subscript (.Name x p) k pos, .Name y py] kt pt] e spos.line X.env = pure false := by rfl) (hsw : swappedStores [.Tuple [.Subscript (.Name x p) k pos, .Name y py] kt pt] e X.env = pure none := by rfl)
    (h1 : (assignEach [.Tuple [.Subscript (.Name x p) k pos, .Name y py] kt pt] X.env).map (·.2) = [assign (.Tuple [.Subscript (.Name x p) k pos, .Name y py] kt pt) X.env] := by rfl) :
    PMS X w W (.Assign [.Tuple [.Subscript (.Name x p) k pos, .Name y py] kt pt] e spos) (mItemPair i j mk m) := by
  obtain ⟨te, pe, se⟩ := he
  obtain ⟨tk, pk, sk⟩ := hk
  refine ⟨_, ps_asg pe (pg_tup hc (pgs_cons (pg_sub (pe_var hN hvi hd hcd) pk set_list ha) (pgs_cons (pg_name hNd hj hy hf) pgs_nil q4) q3) q1 q2) hs hsw h1, fun F O ρ σ H E hw R hh => ?_⟩
  subst hw
  refine se.bindS rfl R hh fun v u ρ1 O1 H1 st1 R1 rv h2 => ?_
  obtain ⟨O2, s2, R2, r2, s3⟩ := VlAt.release st1 R1 R.doh rv
  have h2 := h2.later s3
  split at h2
  · rename_i d1 d2 ev
    rw [ev] at r2
    simp only [Rep, RepL] at r2
    obtain ⟨c, vs, rfl, hc1, v1, _, rfl, r3, v2, _, rfl, r4, rfl⟩ := r2
    refine ⟨c, [v1, v2], rfl, by rw [← hK]; exact sq_of_rep hc1, rfl, v1, [v2], rfl, ?_⟩
    split at h2
    · exact h2.elim
    · rename_i sm q0
      obtain ⟨e0, g0⟩ := muOf_some (s := sm.1) (m := sm.2) q0
      obtain ⟨a', ea, oa, _⟩ := R2.muAt e0 g0
      refine ⟨.ref a', ea, ?_⟩
      refine sk.bindS rfl R2 h2 fun kk uk ρ2 O3 H3 st3 R3 rk h3 => ?_
      obtain ⟨O4, s4, R4, r5, s5⟩ := VlAt.release st3 R3 R2.doh rk
      have h3 := h3.later s5
      split at h3
      · rename_i s ds n0 qq ek
        obtain ⟨e1, g1⟩ := muOf_some qq
        obtain ⟨a2, ea', oa', us, hus, hr⟩ := R4.muAt e1 g1
        rw [ea] at ea'
        cases ea'
        rw [ek] at r5
        rw [rep_int r5]
        split at h3
        · rename_i n hn
          refine ⟨a', us, n0, n, rfl, rfl, hus, by rw [hr.length]; exact hn, ?_⟩
          obtain ⟨R', st⟩ := mut_lst R4 e1 g1 ea oa' (RepL.set (n := n) hr (Rep.step s4 _ _ r3))
          cases q5 : setV j d2 (ρ2.set i (s.put (.lst (ds.set n d1)))) with
          | none => rw [q5] at h3; exact h3.elim
          | some ρ5 =>
            rw [q5] at h3
            exact ⟨v2, [], rfl, rfl, h3 O4 _ _ st (setV_rel R' (Rep.step (s4.trans st) _ _ r4) q5)⟩
        · exact h3.elim
      · exact h3.elim
  · exact h2.elim
end
end PM

/-! text * int; list(text) -/
namespace PM
open PySem PySem.Spec PyProof.Rows L2
def repS (x : Str) (k : Nat) : Str := ⟨(List.replicate k x.cps).foldl (· ++ ·) #[]⟩
theorem fold_size (c : Array Nat) : ∀ (k : Nat) (acc : Array Nat), ((List.replicate k c).foldl (· ++ ·) acc).size = acc.size + k * c.size
  | 0, acc => by simp
  | k + 1, acc => by
    rw [List.replicate_succ, List.foldl_cons, fold_size c k (acc ++ c), Array.size_append, Nat.succ_mul]
    omega
theorem repS_len (x : Str) (k : Nat) : (repS x k).length = k * x.length := by
  show ((List.replicate k x.cps).foldl (· ++ ·) #[]).size = _
  rw [fold_size]
  simp
  rfl
def mulS : D → D → Option Vl
  | .str x, .int k => if 2 ≤ k ∧ k ≤ 10000 ∧ 0 < x.length ∧ x.length ≤ 1000 then some (dS (repS x k.toNat)) else none
  | _, _ => none
def rMulS : R2 := fun x y H Q => ∃ u k, x = .str u ∧ y = .int k ∧ 2 ≤ k ∧ k ≤ 10000 ∧ 0 < u.length ∧ u.length ≤ 1000 ∧ Q (.str (repS u k.toNat)) H
section
variable {w : Wd} {W : WX} {X : Cx} {pos p : Pos} {a b e : Expr} {ma mb : ME} {mr : MA}
theorem op_mulS : OpR X (binaryOp .Mult) rMulS := by
  intro pins s σ H x y v u Q I rx ry h
  obtain ⟨z, k, rfl, rfl, h1, h2, h3, h4, q⟩ := h
  obtain ⟨t, rfl⟩ := rx
  obtain ⟨t', rfl⟩ := ry
  have n1 : ¬ k < 1 := by omega
  have n2 : (k == 1 || z.length == 0) = false := by
    rw [Bool.or_eq_false_iff]
    exact ⟨beq_eq_false_iff_ne.mpr (by omega), beq_eq_false_iff_ne.mpr (by omega)⟩
  refine P.mul_str (by simp; omega) (fun _ _ => ?_) (fun _ _ => ?_) ?_
  · have : (2 ^ 63 - 1) / k ≥ 1000 := by
      apply Int.le_ediv_of_mul_le (by omega)
      omega
    omega
  · have l1 : z.length * k.toNat ≤ 1000 * 10000 := Nat.mul_le_mul h4 (by omega)
    unfold Builtin.Str.tooLong
    simp [sizeLine_eq]
    omega
  · rw [if_neg n1, n2]
    simp only [Bool.false_eq_true, if_false]
    refine ⟨?_, .str _, H, I.tok _, ⟨_, rfl⟩, q⟩
    show (repS z k.toNat).length ≤ sizeLine
    have l1 : k.toNat * z.length ≤ 10000 * 1000 := Nat.mul_le_mul (by omega) h4
    rw [repS_len, sizeLine_eq]
    omega
theorem o2_mulS : Op2 w rMulS mulS := fun O H x y z vx vy Q dm e hx hy k => by
  cases x <;> cases y <;> simp only [mulS] at e <;> first | (cases e; done) | skip
  split at e
  · rename_i u n hf
    cases e
    simp only [Rep] at hx hy
    exact ⟨u, n, hx, hy, hf.1, hf.2.1, hf.2.2.1, hf.2.2.2, k.str⟩
  · cases e
theorem pm_mulS (ha : PM X w W a ma) (hb : PM X w W b mb) : PM X w W (.BinOp a .Mult b pos) (mOp2 mulS ma mb) := pm_bin op_mulS o2_mulS ha hb
def lstS : D → Option Vl
  | .str z => if z.length ≤ 100000 then some (.lst (signs z), true) else none
  | _ => none
def rListS : List V → Hp → VK → Prop := fun xs H Q => ∃ z, xs = [.str z] ∧ z.length ≤ 100000 ∧ ∀ p, H p = none → Q (.ref p) (upd H p (.lst (z.cps.toList.map fun c => .str ⟨#[c]⟩)))
theorem vals_of_signs {z : Str} {acc : Array Value} (h : ItemsOf (SignAt z) acc z.cps.size) : Vals (z.cps.toList.map fun c => V.str ⟨#[c]⟩) acc.toList := by
  obtain ⟨hs, hi⟩ := h
  have key : ∀ (cs : List Nat) (vs : List Value), vs.length = cs.length → (∀ (j : Nat) v, vs[j]? = some v → ∃ c u, cs[j]? = some c ∧ v = Value.str ⟨#[c]⟩ u) → Vals (cs.map fun c => V.str ⟨#[c]⟩) vs := by
    intro cs
    induction cs with
    | nil =>
      intro vs hl _
      cases vs with
      | nil => exact .nil
      | cons _ _ => cases hl
    | cons c cs ih =>
      intro vs hl hv
      cases vs with
      | nil => cases hl
      | cons v vs =>
        obtain ⟨c', u, e1, e2⟩ := hv 0 v rfl
        simp at e1
        subst e1
        refine .cons ⟨u, e2⟩ (ih vs (by simpa using hl) fun j v' hj => ?_)
        have := hv (j + 1) v' (by simpa using hj)
        simpa using this
  refine key z.cps.toList acc.toList (by simpa using hs) fun j v hj => ?_
  obtain ⟨c, u, e1, e2⟩ := hi j v (by simpa using hj)
  exact ⟨c, u, by simpa using e1, e2⟩
theorem call_listS (hc : X.calm = true) : CallR X (.type "list") rListS := by
  intro pins s σ H xs us Q I r h
  obtain ⟨z, rfl, hl, q⟩ := h
  obtain ⟨u, rfl, ru⟩ := vals1 r
  obtain ⟨t, rfl⟩ := ru
  have hz : z.cps.size ≤ sizeLine := by
    rw [sizeLine_eq]
    have : z.length = z.cps.size := rfl
    omega
  refine call_list_str (I.ok.hd hc) z t (fun h' tk acc c' hk e' hi => ?_) hz
  have f := I.hok.fresh (Nat.le_refl s.heap.objs.size)
  refine ⟨.ref _, _, I.laid (t' := tk) (a := s.heap.objs.size) (o := .lst (z.cps.toList.map fun c => .str ⟨#[c]⟩)) hk (Nat.le_refl _) ?_, rfl, q _ f⟩
  have hv := vals_of_signs hi
  refine ⟨by simp; rw [sizeLine_eq] at *; exact hz, acc.toList, c', hv, ?_⟩
  rw [e']
theorem repl_signs {O : Av} {H : Hp} : ∀ cs : List Nat, RepL w O H (cs.map fun c => D.str ⟨#[c]⟩) (cs.map fun c => V.str ⟨#[c]⟩)
  | [] => by simp [RepL]
  | c :: cs => by
    simp only [List.map_cons, RepL, Rep]
    exact ⟨_, _, rfl, rfl, repl_signs cs⟩
theorem pm_listS (hg : Gl X "list") (hm : X.mg "list" = none) (ha : PMA X w W [e] mr) (hc : X.calm = true := by rfl) (he : starEach [e] X.env = (false, eval e X.env) :: starEach [] X.env := by rfl) : PM X w W (.Call (.Name "list" p) [e] [] pos) (mCall (one1 lstS) mr) :=
  pm_callTy (call_listS hc) (fun O H xs z vs Q dm e rs k => by
    obtain ⟨x, rfl, ez⟩ := one1_some e
    clear e
    obtain ⟨v, rfl, hv⟩ := repl1 rs
    unfold lstS at ez
    split at ez
    · rename_i y
      split at ez
      · rename_i hl
        cases ez
        simp only [Rep] at hv
        subst hv
        exact ⟨y, rfl, hl, fun l hl => k.newL (repl_signs _) hl⟩
      · cases ez
    · cases ez) hg hm (by decide +kernel) ha (by decide) (by decide) he
end
end PM

/-! str(x), len(x), y in x of an instance; tuple == instance -/
namespace PM
open PySem PySem.Spec PyProof.Rows L2
def rStrO (C : Addr) (sp : Sp) : List V → Hp → VK → Prop := fun xs H Q => ∃ a dx vs, xs = [V.ref a] ∧ SlX.Slt H a C dx vs ∧ sp [.ref a] H (fun z H' => ∃ u, z = .str u ∧ Q z H') E0
def rLenO (C : Addr) (sp : Sp) : List V → Hp → VK → Prop := fun xs H Q => ∃ a dx vs, xs = [V.ref a] ∧ SlX.Slt H a C dx vs ∧ sp [.ref a] H (fun z H' => ∃ i : Int, z = .int i ∧ 0 ≤ i ∧ i < 2 ^ 63 ∧ Q z H') E0
def rInO (C : Addr) (sp : Sp) : R2 := fun x y H Q => ∃ a dx vs, y = V.ref a ∧ SlX.Slt H a C dx vs ∧ sp [.ref a, x] H (fun z H' => ∃ b, z = .bl b ∧ Q z H') E0
section
variable {X : Cx} {C g : Addr} {sp : Sp} {n : Nat}
theorem call_strO (hs : PySem.W.findIn X.K (.ref C) "__str__" = some (some (.ref g))) (hf : PySem.W.isFn X.K (.ref g) = true) (F : FnR X.prog X.w X.K X.mg X.base CX0 n g sp) (hr : Room (n + 2) X.A) : CallR X (.type "str") (rStrO C sp) := by
  intro pins s σ H xs us Q I r h
  obtain ⟨a, dx, vs, rfl, hsl, q⟩ := h
  obtain ⟨u, rfl, ru⟩ := r.one
  cases (show u = Value.ref a from ru)
  obtain ⟨sl, od, _, J, _⟩ := SlX.slt_inst I hsl
  have r2 : Room n X.A.in1.in1 := (show Room (n + 1) X.A.in1 from Room.in1 hr).in1
  refine PySem.W.kso_call r2.units0 I.kIn J hs hf (wpAny_mono (wpAny_call (SlX.run_at (us := [.ref a]) (ws := [.ref a]) F r2 I.env0.in1.in1 pass0 I (.cons rfl .nil) q)) (fun w s' z => ?_) fun _ _ x => x)
  obtain ⟨z', H', I', rz, y, ey, qz⟩ := z
  subst ey
  obtain ⟨t, e⟩ := (show ∃ t, w = Value.str y t from rz)
  cases e
  exact ⟨.str y, H', I', ⟨t, rfl⟩, qz⟩
theorem call_lenOb (hs : PySem.W.findIn X.K (.ref C) "__len__" = some (some (.ref g))) (hf : PySem.W.isFn X.K (.ref g) = true) (F : FnR X.prog X.w X.K X.mg X.base CX0 n g sp) (hr : Room (n + 1) X.A) : CallR X (.builtin "len") (rLenO C sp) := by
  intro pins s σ H xs us Q I r h
  obtain ⟨a, dx, vs, rfl, hsl, q⟩ := h
  obtain ⟨u, rfl, ru⟩ := r.one
  cases (show u = Value.ref a from ru)
  obtain ⟨sl, od, _, J, _⟩ := SlX.slt_inst I hsl
  obtain ⟨m, hF⟩ := I.fr
  have r1 : Room n X.A.in1 := Room.in1 hr
  refine PySem.W.len_K hF I.ok.mod.kin J hs hf (wpAny_mono (wpAny_call (SlX.run_at (us := [.ref a]) (ws := [.ref a]) F r1 I.env0.in1 pass0 I (.cons rfl .nil) q)) (fun w s' z => ?_) fun _ _ x => x)
  obtain ⟨z', H', I', rz, i, ei, h0, h1, qz⟩ := z
  subst ei
  obtain ⟨t, e⟩ := (show ∃ t, w = Value.int i t from rz)
  cases e
  exact ⟨⟨h0, h1⟩, .int i, H', I'.tok _, ⟨_, rfl⟩, qz⟩
theorem op_inO (hs : PySem.W.findIn X.K (.ref C) "__contains__" = some (some (.ref g))) (hf : PySem.W.isFn X.K (.ref g) = true) (F : FnR X.prog X.w X.K X.mg X.base CX0 n g sp) (hr : Room n X.A) : OpR X (compareOp .In) (rInO C sp) := by
  intro pins s σ H x y v u Q I rx ry h
  obtain ⟨a, dx, vs, rfl, hsl, q⟩ := h
  cases (show u = Value.ref a from ry)
  obtain ⟨sl, od, _, J, _⟩ := SlX.slt_inst I hsl
  obtain ⟨m, hF⟩ := I.fr
  refine PySem.W.in_K hF I.ok.mod.kin J hs hf (wpAny_mono (wpAny_call (SlX.run_at (us := [.ref a, v]) (ws := [.ref a, x]) F hr I.env0 pass0 I (.cons rfl (.cons rx .nil)) q)) (fun w s' z => ?_) fun _ _ x => x)
  obtain ⟨z', H', I', rz, b, eb, qz⟩ := z
  subst eb
  cases rz
  exact wpAny_truthy_bool ⟨.bl b, H', I', rfl, qz⟩
/-- a tuple, an instance whose class has its own == -/
def rEqTO (K : PySem.W.Frag) (C : Addr) (sp : Sp) : R2 := fun x y H Q => ∃ t a dx vs xs, x = .ref t ∧ y = .ref a ∧ SqT K H t xs ∧ SlX.Slt H a C dx vs ∧ sp [y, x] H (fun z H' => ∃ b, z = .bl b ∧ Q z H') E0
theorem op_eqTO (hs : PySem.W.findIn X.K (.ref C) "__eq__" = some (some (.ref g))) (hf : PySem.W.isFn X.K (.ref g) = true) (hn : PySem.W.subIn X.K (.ref C) (.type "tuple") = some false) (F : FnR X.prog X.w X.K X.mg X.base CX0 n g sp) (hr : Room n X.A) : OpR X (compareOp .Eq) (rEqTO X.K C sp) := by
  intro pins s σ H x y v u Q I rx ry h
  obtain ⟨t, a, dx, vs, xs, rfl, rfl, ht, ha, q⟩ := h
  cases (show v = Value.ref t from rx)
  cases (show u = Value.ref a from ry)
  obtain ⟨sl, od, _, J, _⟩ := SlX.slt_inst I ha
  obtain ⟨its, rt, et, zt⟩ := I.tuple ht
  obtain ⟨⟨cls, dd, data, sl2⟩, ho, hc, k, hd⟩ := id et
  simp only at hc hd
  subst hc hd
  have sub : PySem.W.Looks (model X.prog X.w) s.heap (isSubtype (.ref C) (.type "tuple")) false := PySem.W.looks_subIn I.kIn hn
  show wpAny _ _ (richCompare .Eq _ _) _ _ _
  unfold richCompare
  simp only [oneThing_ref]
  refine wpAny_holding (wpAny_bind (wpAny_cRoomFor hr.units0 ?_))
  refine wpAny_bind (wpAny_typeOf_ref ho (wpAny_bind (J.type.here ?_)))
  rw [if_pos (by rfl)]
  refine wpAny_bind (sub.here ?_)
  simp only [Bool.false_eq_true, if_false]
  refine wpAny_bind (wpAny_tryCompare_declines (T := "tuple") ⟨_, ho, rfl⟩ PySem.F.slot_tuple_eq (GQ.call_here PySem.F.slot_tuple_eq ⟨_, ho, rfl⟩ PySem.F.entry_tuple_eq (PySem.F.args_tuple_eq_2 _ _) ?_))
  have isI : PySem.W.Looks (model X.prog X.w) s.heap (isInstance (.ref a) (.type "tuple")) false := J.type.andThen sub
  obtain ⟨hp, g1, d1, tk, os⟩ := s
  unfold Builtin.«tuple.__eq__»
  repeat (first | with_reducible refine AutoSeq1.wpAny_loadPart' ho ?_ | with_reducible refine isI.at ?_ | wp_step)
  refine ⟨rfl, ?_⟩
  simp only [Bool.not_false, if_true]
  refine wpAny_bind ?_
  unfold tryCompare
  refine wpAny_bind (PySem.W.ifBound_K I.kIn J hs hf (wpAny_mono (wpAny_call (run_fnR (us := [.ref a, .ref t]) (vs := [.ref a, .ref t]) F hr pass0 I (.cons rfl (.cons rfl .nil)) q)) (fun w s' z => ?_) fun _ _ x => x))
  obtain ⟨z', H', I', rz, b, eb, qz⟩ := z
  subst eb
  cases rz
  exact wpAny_pure (wpAny_pure ⟨.bl b, H', I', rfl, qz⟩)
end
/-- what a class with such defs must say -/
structure DunOk (w : Wd) (c : Nat) (f : Str) (g : Addr) : Prop where
  at_ : PySem.W.findIn w.K (.ref (w.cl c)) f = some (some (.ref g))
  fn : PySem.W.isFn w.K (.ref g) = true
def strO (c : Nat) (f : Fn) (x : D) : Option Vl := if isObj c x = true then (match fnN f [x] with
  | some (.str u, false) => some (dS u)
  | _ => none) else none
def lenOb (c : Nat) (f : Fn) (x : D) : Option Vl := if isObj c x = true then (match fnN f [x] with
  | some (.int i, false) => if 0 ≤ i ∧ i < 2 ^ 63 then some (dI i) else none
  | _ => none) else none
def inO (c : Nat) (f : Fn) (x y : D) : Option Vl := if isObj c y = true then (match fnN f [y, x] with
  | some (.bl b, false) => some (dB b)
  | _ => none) else none
def isTup : D → Bool
  | .tup _ => true
  | _ => false
def eqTO (c : Nat) (f : Fn) (x y : D) : Option Vl := if isTup x = true ∧ isObj c y = true then (match fnN f [y, x] with
  | some (.bl b, false) => some (dB b)
  | _ => none) else none
section
variable {w : Wd} {W : WX} {X : Cx} {pos p : Pos} {a b e : Expr} {ma mb : ME} {mr : MA} {c n : Nat} {g : Addr} {fn : Fn}
theorem pm_strO (hK : w.K = X.K) (hp : DunOk w c "__str__" g) (F : MthOk X.prog X.w X.K X.mg X.base w g 1 n fn) (hr : Room (n + 2) X.A) (hg : Gl X "str") (hm : X.mg "str" = none) (ha : PMA X w W [e] mr) (he : starEach [e] X.env = (false, eval e X.env) :: starEach [] X.env := by rfl) : PM X w W (.Call (.Name "str" p) [e] [] pos) (mCall (one1 (strO c fn)) mr) :=
  pm_callTy (call_strO (hK ▸ hp.at_) (hK ▸ hp.fn) F hr) (fun O H xs z vs Q dm e rs k => by
    obtain ⟨x, rfl, ez⟩ := one1_some e
    clear e
    obtain ⟨v, rfl, hv⟩ := repl1 rs
    unfold strO at ez
    split at ez
    · rename_i ho
      split at ez
      · rename_i u eu
        cases ez
        obtain ⟨fs, rfl⟩ := isObj_some ho
        obtain ⟨a, dx, us, ea, h1, _⟩ := slt_of hv
        subst ea
        refine ⟨a, dx, _, rfl, h1, sp_of dm rfl eu (by simp only [RepL]; exact ⟨_, _, rfl, hv, rfl⟩) fun v' H' gr gv => ?_⟩
        have gv : Rep w O H' (.str u) v' := gv
        simp only [Rep] at gv
        subst gv
        exact ⟨u, rfl, k _ H' gr (by simp only [GoAt, dS, Rep])⟩
      · cases ez
    · cases ez) hg hm (by decide +kernel) ha (by decide) (by decide) he
theorem pm_lenOb (hK : w.K = X.K) (hp : DunOk w c "__len__" g) (F : MthOk X.prog X.w X.K X.mg X.base w g 1 n fn) (hr : Room (n + 1) X.A) (hg : Gl X "len") (hm : X.mg "len" = none) (ha : PMA X w W [e] mr) (he : starEach [e] X.env = (false, eval e X.env) :: starEach [] X.env := by rfl) : PM X w W (.Call (.Name "len" p) [e] [] pos) (mCall (one1 (lenOb c fn)) mr) :=
  pm_callB (call_lenOb (hK ▸ hp.at_) (hK ▸ hp.fn) F hr) (fun O H xs z vs Q dm e rs k => by
    obtain ⟨x, rfl, ez⟩ := one1_some e
    clear e
    obtain ⟨v, rfl, hv⟩ := repl1 rs
    unfold lenOb at ez
    split at ez
    · rename_i ho
      split at ez
      · rename_i u eu
        split at ez
        · rename_i hu
          cases ez
          obtain ⟨fs, rfl⟩ := isObj_some ho
          obtain ⟨a, dx, us, ea, h1, _⟩ := slt_of hv
          subst ea
          refine ⟨a, dx, _, rfl, h1, sp_of dm rfl eu (by simp only [RepL]; exact ⟨_, _, rfl, hv, rfl⟩) fun v' H' gr gv => ?_⟩
          have gv : Rep w O H' (.int u) v' := gv
          simp only [Rep] at gv
          subst gv
          exact ⟨u, rfl, hu.1, hu.2, k _ H' gr (by simp only [GoAt, dI, Rep])⟩
        · cases ez
      · cases ez
    · cases ez) hg hm PySem.boot_len ha (by decide) (by decide) he
theorem o2_inO : Op2 w (rInO (w.cl c) (spOf w 2 fn)) (inO c fn) := fun O H x y z vx vy Q dm e hx hy k => by
  unfold inO at e
  split at e
  · rename_i ho
    split at e
    · rename_i bb eb
      cases e
      obtain ⟨fs, rfl⟩ := isObj_some ho
      obtain ⟨a, dx, us, ea, h1, _⟩ := slt_of hy
      subst ea
      refine ⟨a, dx, _, rfl, h1, sp_of dm rfl eb (by simp only [RepL]; exact ⟨_, _, rfl, hy, _, _, rfl, hx, rfl⟩) fun v' H' gr gv => ?_⟩
      have gv : Rep w O H' (.bl bb) v' := gv
      simp only [Rep] at gv
      subst gv
      exact ⟨bb, rfl, k _ H' gr (by simp only [GoAt, dB, Rep])⟩
    · cases e
  · cases e
theorem pm_inO (hK : w.K = X.K) (hp : DunOk w c "__contains__" g) (F : MthOk X.prog X.w X.K X.mg X.base w g 2 n fn) (hr : Room n X.A) (ha : PM X w W a ma) (hb : PM X w W b mb) (hm : behindInMarks .In b = false := by rfl) : PM X w W (.Compare a [.In] [b] pos) (mOp2 (inO c fn) ma mb) :=
  pm_cmp (op_inO (hK ▸ hp.at_) (hK ▸ hp.fn) F hr) o2_inO ha hb hm
theorem o2_eqTO : Op2 w (rEqTO w.K (w.cl c) (spOf w 2 fn)) (eqTO c fn) := fun O H x y z vx vy Q dm e hx hy k => by
  unfold eqTO at e
  split at e
  · rename_i ho
    split at e
    · rename_i bb eb
      cases e
      obtain ⟨fs, rfl⟩ := isObj_some ho.2
      obtain ⟨a, dx, us, ea, h1, _⟩ := slt_of hy
      subst ea
      cases x with
      | tup ds =>
        have hx' := hx
        simp only [Rep] at hx
        obtain ⟨t, ws, rfl, h2, h3⟩ := hx
        refine ⟨t, a, dx, _, ws, rfl, rfl, sq_of_rep h2, h1, sp_of dm rfl eb (by simp only [RepL]; exact ⟨_, _, rfl, hy, _, _, rfl, hx', rfl⟩) fun v' H' gr gv => ?_⟩
        have gv : Rep w O H' (.bl bb) v' := gv
        simp only [Rep] at gv
        subst gv
        exact ⟨bb, rfl, k _ H' gr (by simp only [GoAt, dB, Rep])⟩
      | _ => cases ho.1
    · cases e
  · cases e
/-- x == y: data, two instances, or a tuple and an instance -/
theorem pm_eqOT (hK : w.K = X.K) (hp : EqOk w c g) (ht : PySem.W.subIn w.K (.ref (w.cl c)) (.type "tuple") = some false) (F : MthOk X.prog X.w X.K X.mg X.base w g 2 n fn) (hr : Room n X.A) (ha : PM X w W a ma) (hb : PM X w W b mb) : PM X w W (.Compare a [.Eq] [b] pos) (mOp2 (orD (orD eqD (eqO c fn)) (eqTO c fn)) ma mb) :=
  pm_cmp (((op_eqD hr.units).or (op_eqO (hK ▸ hp.at_) (hK ▸ hp.fn) F hr)).or (op_eqTO (hK ▸ hp.at_) (hK ▸ hp.fn) (hK ▸ ht) F hr)) (Op2.or (Op2.or (hK ▸ o2_eqD) (hK ▸ o2_eqO hp)) (hK ▸ o2_eqTO)) ha hb (nomark _)
end
end PM

/-! the head's facts, with defs that close over their class (super()), and classes of errors -/
namespace PM
open PySem PySem.Spec PyProof.Rows L2
open PySem.W (Frag findIn typeIn subIn keepIn)
/-- an __init__ that closes over its class -/
structure DfC where
  at_ : Frag → Addr
  name : Str
  qual : Str
  st : Stmt
def fnC (K : Frag) (a : Addr) : He.FnV := match K.lookup a with
  | some ⟨_, _, .func fd, _⟩ => some (fd.name, fd.qualname, fd.params, fd.body, fd.scope, fd.globals, [], fd.defaults, fd.builtins)
  | _ => none
def DfC.val (d : DfC) : He.FnV := some (d.name, d.qual, defArgs d.st, .stmts (defBody d.st), defScope d.st, mainGlobals, [], .none, builtinsNs)
/-- where the code object and the cell of such a def stand -/
def codeAt (K : Frag) (a : Addr) : Addr := match K.lookup a with
  | some ⟨_, _, .func fd, _⟩ => (match fd.code with | .ref c => c | _ => 0)
  | _ => 0
def cellAt (K : Frag) (a : Addr) : Addr := match K.lookup a with
  | some ⟨_, _, .func fd, _⟩ => (match fd.closure with | [(_, c)] => c | _ => 0)
  | _ => 0
def clB (K : Frag) (a : Addr) : Bool := match K.lookup a with
  | some ⟨_, _, .func fd, _⟩ => (match fd.code, fd.closure with | .ref _, [(n, _)] => decide (n = ("__class__" : Str)) | _, _ => false)
  | _ => false
theorem fnC_ok {K : Frag} {d : DfC} (e : fnC K (d.at_ K) = d.val) (c : clB K (d.at_ K) = true) : ∃ (oc : Value) (od : Option Addr) (kV doc pm : Value) (an : Option Addr) (ct : Value) (osl : Array (Option Value)),
    K.lookup (d.at_ K) = some ⟨oc, od, .func (PySem.W.ksFn d.name d.qual (defArgs d.st) (defBody d.st) (defScope d.st) .none kV doc pm an (.ref (codeAt K (d.at_ K))) ct (cellAt K (d.at_ K))), osl⟩ := by
  unfold fnC at e
  unfold clB at c
  unfold codeAt cellAt
  cases q : K.lookup (d.at_ K) with
  | none => rw [q] at c; cases c
  | some o =>
    obtain ⟨oc, od, dt, osl⟩ := o
    rw [q] at c e
    cases dt with
    | func fd =>
      obtain ⟨n1, n2, n3, n4, n5, n6, n7, n8, n9, n10, n11, n12, n13, n14, n15⟩ := fd
      have e2 : (some (n1, n2, n3, n4, n5, n6, [], n8, n15) : He.FnV) = d.val := e
      unfold DfC.val at e2
      simp only [Option.some.injEq, Prod.mk.injEq] at e2
      obtain ⟨h1, h2, h3, h4, h5, h6, _, h8, h9⟩ := e2
      subst h1 h2 h3 h4 h5 h6 h8 h9
      cases n13 with
      | ref cd =>
        cases n7 with
        | nil => cases c
        | cons p r =>
          cases r with
          | cons _ _ => cases c
          | nil =>
            obtain ⟨nm, cc⟩ := p
            have c : decide (nm = ("__class__" : Str)) = true := c
            have c := of_decide_eq_true c
            subst c
            exact ⟨oc, od, _, _, _, _, _, osl, rfl⟩
      | _ => cases c
    | _ => cases c
def obsX (cs : List Chk) (fn : List DfM) (fc : List DfC) (ts : List He.Tab) (K : Frag) : AlM := (((cs.all fun c => c K) && (fn.all fun d => d.ok K) && fc.all fun d => clB K (d.at_ K), (fn.map fun d => fnM K (d.at_ K)) ++ fc.map fun d => fnC K (d.at_ K)), ts.map fun t => He.dicW K (t.1 K))
def valX (fn : List DfM) (fc : List DfC) (ts : List He.Tab) (w : World) : AlM := ((true, fn.map DfM.val ++ fc.map DfC.val), ts.map fun t => some (He.keysIn w.params t.2))
def SaysX (cs : List Chk) (fn : List DfM) (fc : List DfC) (ts : List He.Tab) (w : World) (K : Frag) : Prop := obsX cs fn fc ts K = valX fn fc ts w
def obsXG (n : Nat) (cs : List Chk) (fn : List DfM) (fc : List DfC) (ts : List He.Tab) (g : Addr → Option Obj) : AlM := obsX cs fn fc ts (He.frG g (asM g n))
def hookX (n : Nat) (cs : List Chk) (fn : List DfM) (fc : List DfC) (ts : List He.Tab) : PySem.W.Hook where
  α := AlM
  obs := fun s => obsXG n cs fn fc ts s.heap.get?
  val := fun w => valX fn fc ts w
  says := fun w h => ∃ K : Frag, K.In h ∧ SaysX cs fn fc ts w K
  of := fun _ _ e => ⟨_, He.frG_in, e⟩
  keeps := fun _ _ _ ⟨K, hK, c⟩ k => ⟨K, PySem.W.Frag.In.keeps hK k, c⟩
theorem obsXG_eq {n : Nat} {cs : List Chk} {fn : List DfM} {fc : List DfC} {ts : List He.Tab} {g : Addr → Option Obj} {s : Shared} (h : ∀ a, g a = s.heap.get? a) : obsXG n cs fn fc ts g = (hookX n cs fn fc ts).obs s := by
  have e : g = s.heap.get? := funext h
  rw [e] <;> rfl
section
variable {cs : List Chk} {fn : List DfM} {fc : List DfC} {ts : List He.Tab} {w : World} {K : Frag}
theorem SaysX.m (c : SaysX cs fn fc ts w K) : SaysM cs fn ts w K ∧ (fc.map fun d => fnC K (d.at_ K)) = fc.map DfC.val ∧ (fc.all fun d => clB K (d.at_ K)) = true := by
  have e1 : ((cs.all fun c => c K) && (fn.all fun d => d.ok K) && fc.all fun d => clB K (d.at_ K)) = true := congrArg (fun z : AlM => z.1.1) c
  have e2 : (fn.map fun d => fnM K (d.at_ K)) ++ (fc.map fun d => fnC K (d.at_ K)) = fn.map DfM.val ++ fc.map DfC.val := congrArg (fun z : AlM => z.1.2) c
  have e3 : ts.map (fun t => He.dicW K (t.1 K)) = ts.map fun t => some (He.keysIn w.params t.2) := congrArg (fun z : AlM => z.2) c
  obtain ⟨h1, h2⟩ := He.ba e1
  obtain ⟨h3, h4⟩ := List.append_inj e2 (by simp)
  refine ⟨?_, h4, h2⟩
  show obsM cs fn ts K = valM fn ts w
  unfold obsM valM
  rw [h1, h3, e3]
theorem SaysX.cl (c : SaysX cs fn fc ts w K) (i : Nat) {d : DfC} (h : fc[i]? = some d := by rfl) : fnC K (d.at_ K) = d.val ∧ clB K (d.at_ K) = true := by
  obtain ⟨_, h4, h2⟩ := c.m
  have e2 : (fc.map fun d => fnC K (d.at_ K))[i]? = (fc.map DfC.val)[i]? := by rw [h4]
  rw [List.getElem?_map, List.getElem?_map, h] at e2
  exact ⟨Option.some.inj e2, List.all_eq_true.mp h2 d (List.mem_of_getElem? h)⟩
end
/-! ### a class of errors -/
def supOf : List Stmt → Option SupSt
  | [.Expr (.Call (.Attribute (.Call (.Name _ p0) [] [] p1) _ p2) [.Constant (.str msg) j p3] [] p4) p5, .Assign [.Attribute (.Name slf p6) fld p7] (.Name par p8) p9] => some ⟨msg, fld, slf, par, j, p0, p1, p2, p3, p4, p5, p6, p7, p8, p9⟩
  | _ => none
/-- what K says of the class C, its __init__ at f -/
def errB (C : Str) (fld : Str) (B i newId : String) (bmB : List Value) (file : Str) : Chk := fun K =>
  let c := He.ga K C
  let f := metAt C "__init__" K
  (match K.lookup c with
    | some ⟨.type ty, _, .cls cd, sl⟩ => decide (ty = "type") && (decide (cd.mro.head? = some (.ref c)) && (refsB bmB cd.mro.tail && (cd.hasDict && (!cd.hasDel && (match sl.toList with | [_, _, _, _, some (.builtin n), _] => decide (n = newId) | _ => false)))))
    | _ => false) &&
  (PySem.W.codeIn K (.ref (codeAt K f)) (C ++ ".__init__") &&
  ((match K.lookup (codeAt K f) with | some ⟨_, _, .fields vs, _⟩ => (match (vs[2]? : Option Value) with | some (.str z _) => decide (z = file) | _ => false) | _ => false) &&
  ((match K.lookup (cellAt K f) with | some ⟨_, _, .cell (some (.ref D)), _⟩ => decide (D = c) | _ => false) &&
  ((match PySem.W.nsIn K cStatics "thirdparty.any" with | some none => true | _ => false) &&
  ((match PySem.W.ks_superIn K c c "__init__" with | some (some (.builtin n)) => decide (n = i) | _ => false) &&
  (obB (subIn K (.ref c) (.type B)) (some true) && (obB (PySem.W.mroIn K c (.ref c)) (some true) && (obB (PySem.W.mroIn K c (.type "object")) (some true) &&
  (He.eqO (findIn K (.ref c) "__setattr__") (some (some (.builtin "object.__setattr__"))) && ((match findIn K (.ref c) fld with | some none => true | _ => false) &&
  (He.eqO (findIn K (.ref c) "__init__") (some (some (.ref f))) && (decide (typeIn K (.ref f) = some (.type "function")) && (keepIn K (.ref c) && (obB (subIn K (.ref c) (.type "BaseException")) (some true) && decide (typeIn K (.ref c) = some (.type "type"))))))))))))))))
end PM

namespace PM
open PySem PySem.Spec PyProof.Rows L2
open PySem.W (Frag findIn typeIn subIn keepIn ksEnv ksFn)
/-- what the text of such an __init__ says by itself -/
structure SupS (P : Program) (st : Stmt) (b : SupSt) (qual file : Str) : Prop where
  body : b.body = defBody st
  head : ((defArgs st).posonlyargs ++ (defArgs st).args).head?.map (·.arg) = some b.slf
  ne : b.slf ≠ b.par
  kind : (defScope st).kind = .function
  co : (defScope st).isCoroutine = false
  gen : (defScope st).isGenerator = false
  nocell : ∀ x ∈ (defScope st).names, x.2 ≠ .cell
  ksup : (defScope st).names.lookup ("super" : Str) = some .globalImplicit
  kcls : (defScope st).names.lookup ("__class__" : Str) = some .free
  kslf : (defScope st).names.lookup b.slf = some .local
  kpar : (defScope st).names.lookup b.par = some .local
  top : (P.main.scope.names.lookup ("super" : Str)).isSome = false
  file : ((P.main.file : Str) == file) = true
  binds : ∀ (kV doc pm : Value) (an : Option Addr) (cdv ct : Value) (cc : Addr) (us : List Value), us.length = 2 → bindArgs (ksFn "__init__" qual (defArgs st) (defBody st) (defScope st) .none kV doc pm an cdv ct cc) ⟨us, []⟩ = pure ([b.slf, b.par].zip us)
  hi : ∀ L f cda cc, interactive (ksEnv qual (defScope st) L f (.ref cda) cc) = false
  hs1 : ∀ L f cda cc, swapsWith b.call none b.p5.line (ksEnv qual (defScope st) L f (.ref cda) cc) = pure false
  hs2 : ∀ L f cda cc, swapsWith (.Name b.par b.p8) (some (.Attribute (.Name b.slf b.p6) b.fld b.p7)) b.p9.line (ksEnv qual (defScope st) L f (.ref cda) cc) = pure false
  hev : ∀ L f cda cc, ∃ pl : Sem Bool, eval b.call (ksEnv qual (defScope st) L f (.ref cda) cc) = (do
      let ov ← attributeBase (.Call (.Name "super" b.p0) [] [] b.p1) "__init__" (ksEnv qual (defScope st) L f (.ref cda) cc) (eval (.Call (.Name "super" b.p0) [] [] b.p1) (ksEnv qual (defScope st) L f (.ref cda) cc))
      standAt b.p2.atName
      let (fv, first) ← holding [ov] (getMethod ov "__init__" pl)
      callWith b.p4 fv first (backTo b.p4 (starEach [.Constant (.str b.msg) b.j b.p3] (ksEnv qual (defScope st) L f (.ref cda) cc))) [])
  d1 : (b.slf == ("__debug__" : Str)) = false
  d2 : (b.par == ("__debug__" : Str)) = false
theorem b2' {a b : Bool} (h : (a && b) = true) : a = true ∧ b = true := Bool.and_eq_true_iff.mp h
theorem err_ok {P : Program} {K : Frag} {C fld file : Str} {B i newId : String} {bmB : List Value} {st : Stmt} {b : SupSt} (S : SupS P st b (C ++ ".__init__") file) (hfl : b.fld = fld) (h : errB C fld B i newId bmB file K = true)
    (h2 : fnC K (metAt C "__init__" K) = DfC.val ⟨metAt C "__init__", "__init__", C ++ ".__init__", st⟩) (h3 : clB K (metAt C "__init__" K) = true) (KF : PySem.W.KxsFacts B i) (FB : IniF B i) (NF : ∃ (B0 init0 : String) (bm0 : List Value), ExcBaseFacts B0 newId init0 bm0 ∧ LineF B0 bmB) (lets : ∀ y : Value, refuseLoop y "__setattr__" bmB = pure ()) : ErrK P K (He.ga K C) fld := by
  unfold errB at h
  obtain ⟨g1, h⟩ := b2' h
  obtain ⟨g2, h⟩ := b2' h
  obtain ⟨g3, h⟩ := b2' h
  obtain ⟨g4, h⟩ := b2' h
  obtain ⟨g5, h⟩ := b2' h
  obtain ⟨g6, h⟩ := b2' h
  obtain ⟨g7, h⟩ := b2' h
  obtain ⟨g8, h⟩ := b2' h
  obtain ⟨g9, h⟩ := b2' h
  obtain ⟨g10, h⟩ := b2' h
  obtain ⟨g11, h⟩ := b2' h
  obtain ⟨g12, h⟩ := b2' h
  obtain ⟨g13, h⟩ := b2' h
  obtain ⟨g14, h⟩ := b2' h
  obtain ⟨g15, g16⟩ := b2' h
  obtain ⟨oc, od, kV, doc, pm, an, ct, osl, hf⟩ := fnC_ok (d := ⟨metAt C "__init__", "__init__", C ++ ".__init__", st⟩) h2 h3
  have hf : K.lookup (metAt C "__init__" K) = some ⟨oc, od, .func (ksFn "__init__" (C ++ ".__init__") (defArgs st) (defBody st) (defScope st) .none kV doc pm an (.ref (codeAt K (metAt C "__init__" K))) ct (cellAt K (metAt C "__init__" K))), osl⟩ := hf
  have no : findIn K (.ref (He.ga K C)) fld = some none := by
    split at g11
    · assumption
    · cases g11
  refine ⟨⟨metAt C "__init__" K, cellAt K (metAt C "__init__" K), codeAt K (metAt C "__init__" K), B, i, newId, bmB, b, C ++ ".__init__", defArgs st, defScope st, ?_, hfl, KF, FB, NF, lets, He.eqO_ok g12, of_decide_eq_true g13⟩, g14, of_decide_eq_true g15, of_decide_eq_true g16⟩
  refine ⟨?_, ⟨oc, od, kV, doc, pm, an, ct, osl, by rw [S.body]; exact hf, fun s us hl => .of_eq (by rw [S.body]; exact S.binds _ _ _ _ _ _ _ us hl)⟩, g2, ?_, ?_, S.head, S.ne, S.kind, S.co, S.gen, S.nocell, S.ksup, S.kcls, S.kslf, S.kpar, S.top, ?_, ?_, of_decide_eq_true g7, of_decide_eq_true g8, of_decide_eq_true g9, He.eqO_ok g10, by rw [hfl]; exact no, fun L => S.hi L _ _ _, fun L => S.hs1 L _ _ _, fun L => S.hs2 L _ _ _, fun L => S.hev L _ _ _, S.d1, S.d2⟩
  · split at g1
    · rename_i ty dd cd sl e
      obtain ⟨a1, g1⟩ := b2' g1
      obtain ⟨a2, g1⟩ := b2' g1
      obtain ⟨a3, g1⟩ := b2' g1
      obtain ⟨a4, g1⟩ := b2' g1
      obtain ⟨a5, a6⟩ := b2' g1
      have a1 := of_decide_eq_true a1
      subst a1
      have a2 := of_decide_eq_true a2
      split at a6
      · rename_i k0 k1 k2 k3 nn k5 es
        have a6 := of_decide_eq_true a6
        subst a6
        obtain ⟨nm, bs, mro, ns, qn, hd, sn, sub, ab, col, del⟩ := cd
        simp only at a2 a3 a4 a5
        cases mro with
        | nil => cases a2
        | cons m0 bm =>
          cases a2
          have a5 : del = false := by simpa using a5
          subst a4
          subst a5
          have hsl : sl = #[k0, k1, k2, k3, some (.builtin nn), k5] := by
            obtain ⟨l⟩ := sl
            simp only at es
            rw [es]
          subst hsl
          exact ⟨nm, qn, ns, bs, bm, sn, sub, ab, col, dd, k0, k1, k2, k3, k5, e, a3⟩
      · cases a6
    · cases g1
  · split at g3
    · rename_i ccl cdd vs ccs e
      split at g3
      · rename_i z t ez
        have ezz := of_decide_eq_true g3
        subst ezz
        exact ⟨ccl, cdd, vs, ccs, z, t, e, ez, S.file⟩
      · cases g3
    · cases g3
  · split at g4
    · rename_i cl cld D csl e
      have eD := of_decide_eq_true g4
      subst eD
      exact ⟨cl, cld, csl, e⟩
    · cases g4
  · split at g5
    · assumption
    · cases g5
  · split at g6
    · rename_i nn e
      have en := of_decide_eq_true g6
      subst en
      exact e
    · cases g6
def clkB (C f : Str) : Chk := fun K => xfB K (He.ga K C) && ((match findIn K (.ref (He.ga K C)) f with | some none => true | _ => false) && obB (PySem.W.exmOne K (.ref (He.ga K C)) (.ref (He.ga K C))) (some true))
theorem clkB_ok {K : Frag} {C f : Str} (h : clkB C f K = true) : ClK K (He.ga K C) f := by
  obtain ⟨h1, h⟩ := b2' h
  obtain ⟨h2, h3⟩ := b2' h
  refine ⟨xfB_ok h1, ?_, of_decide_eq_true h3⟩
  split at h2
  · assumption
  · cases h2
def exmB (C D : Str) : Chk := fun K => obB (PySem.W.exmOne K (.ref (He.ga K C)) (.ref (He.ga K D))) (some false)
theorem exmB_ok {K : Frag} {C D : Str} (h : exmB C D K = true) : PySem.W.exmOne K (.ref (He.ga K C)) (.ref (He.ga K D)) = some false := of_decide_eq_true h
def notTup (C : Str) : Chk := fun K => obB (subIn K (.ref (He.ga K C)) (.type "tuple")) (some false)
theorem notTup_ok {K : Frag} {C : Str} (h : notTup C K = true) : subIn K (.ref (He.ga K C)) (.type "tuple") = some false := of_decide_eq_true h
def dunB (C f : Str) : Chk := fun K => He.eqO (findIn K (.ref (He.ga K C)) f) (some (some (.ref (metAt C f K)))) && PySem.W.isFn K (.ref (metAt C f K))
theorem dunB_ok {K : Frag} {w : Wd} {C f : Str} {c : Nat} (hK : w.K = K) (hc : w.cl c = He.ga K C) (h : dunB C f K = true) : DunOk w c f (metAt C f K) := by
  obtain ⟨h1, h2⟩ := b2' h
  subst hK
  exact ⟨by rw [hc]; exact He.eqO_ok h1, h2⟩
end PM

/-! list(x), x an instance whose __iter__ gives iter(a tuple that it keeps), with its own __len__ -/
namespace PM
open PySem PySem.Spec PyProof.Rows L2
def ItT (t it : Addr) : HO := .ext fun h => h.IsTupleIter it t 0
def AnyO (it : Addr) : HO := .ext fun h => ∃ o, h.get? it = some o
theorem itT_ok {P : Program} {w : World} {H : Hp} {h : Heap} {it t : Addr} (e : h.IsTupleIter it t 0) : ObjOk P w H h it (ItT t it) := ⟨e, ⟨_, e.choose_spec.1⟩, fun _ _ ⟨o, ho, r⟩ k => ⟨o, k o ho, r⟩⟩
theorem anyO_ok {P : Program} {w : World} {H : Hp} {h : Heap} {it : Addr} {o : Obj} (e : h.get? it = some o) : ObjOk P w H h it (AnyO it) := ⟨⟨o, e⟩, ⟨o, e⟩, fun _ _ ⟨o, ho⟩ k => ⟨o, k o ho⟩⟩
def ItN (t it : Addr) (i : Nat) : HO := .ext fun h => h.IsTupleIter it t i
theorem itN_ok {P : Program} {w : World} {H : Hp} {h : Heap} {it t : Addr} {i : Nat} (e : h.IsTupleIter it t i) : ObjOk P w H h it (ItN t it i) := ⟨e, ⟨_, e.choose_spec.1⟩, fun _ _ ⟨o, ho, r⟩ k => ⟨o, k o ho, r⟩⟩
section
variable {prog : Program} {w : World} {A : Around} {E : Value → Shared → Prop} {s : Shared} {Q : Option Value → Shared → Prop}
theorem next_end {it t : Addr} {i : Nat} {items : Array Value} (hh : A.handled = none) (h1 : s.heap.IsTupleIter it t i) (h2 : s.heap.IsTuple t items) (h3 : items[i]? = none) (hQ : ∀ h', Heap.ExtBut it s.heap h' → (∃ o, h'.get? it = some o) → Q none { s with heap := h' }) : wpAny (model prog w) A (pyNext (.ref it)) Q E s := by
  obtain ⟨o, ho, hc, hd⟩ := id h1
  obtain ⟨o2, ho2, _, n2, hd2⟩ := h2
  unfold pyNext
  refine wpAny_bind (wpAny_attempt (wpAny_callSpecial?_slot (name := Str.ofString "__next__") h1.typeIs PySem.F.slot_tuple_iterator_next (wpAny_call_entry PySem.F.slot_tuple_iterator_next h1.typeIs PySem.F.entry_tuple_iterator_next (show wpAny _ _ (field (.ref it) 0 >>= _) _ _ s from ?_) (PySem.F.args_tuple_iterator_next_1 _))))
  refine wpAny_bind (wpAny_field ho hd (x := .ref t) rfl (show wpAny _ _ (if (Value.ref t == Value.none) = true then _ else _) _ _ s from ?_))
  rw [if_neg (show ¬ ((Value.ref t == Value.none) = true) from Bool.false_ne_true)]
  refine (show wpAny _ _ (field (.ref it) 1 >>= _) _ _ s from wpAny_bind (wpAny_field ho hd (x := .int i 0) rfl (show wpAny _ _ (seqItems? (.ref t) >>= _) _ _ s from wpAny_bind (wpAny_seqItems ho2 hd2 ?_))))
  simp only [Int.toNat_natCast, h3]
  refine wpAny_bind (wpAny_rule (wpAny_bind (wpAny_setField ho hd (by simp) (show wpAny _ _ (newExc (.type "StopIteration") [] >>= _) _ _ _ from wpAny_bind ?_))))
  simp only [newExc, newTuple]
  refine wpAny_bind (wpAny_newObj_type (wpAny_bind (m := firstArgMember _ _) (wpAny_of_eq (a := Value.none) (by first | rfl | (simp only [firstArgMember]; rfl)) (wpAny_newObj_type ?_ (by size_fits)))) (by size_fits))
  simp only [raiseNew]
  refine wpAny_bind (wpAny_handled ?_)
  first | rw [show A.in1.handled = none from hh] | rw [hh]
  refine wpAny_bind (wpAny_pure (wpAny_throw ?_))
  refine wpAny_bind (wpAny_isInstance (T := "StopIteration") (b := true) ⟨_, Heap.get?_push_size _ rfl, rfl⟩ isSubtype_stop ?_)
  refine wpAny_pure (hQ _ (((Heap.SameBut.update ..).extBut.push _).push _) ?_)
  exact ⟨_, Heap.get?_push_of_some _ (Heap.get?_push_of_some _ (Heap.get?_update_self _ ho (Obj.isFreed_of_fields (Obj.data_mapFields hd _))))⟩
end
section
variable {X : Cx} {pins : List (Addr × Obj)} {σ : L2.St} {H0 : Hp} {t it q0 : Addr} {zs : List V} {Rs : Result → Shared → Prop} {A1 : Around}
/-- the walk that fills the list -/
theorem loopT (hh : A1.in1.handled = none) (hne : q0 ≠ it) (f1 : H0 q0 = none) (f2 : H0 it = none) (hsq : ∀ H, Grow H0 H → SqT X.K H t zs) (hdone : ∀ H s, Inv X pins σ H s → Grow H0 H → H q0 = some (.lst zs) → Rs (.ok (.ret .none)) s) (hz : zs.length ≤ sizeLine) :
    ∀ (m i : Nat) (H : Hp) (s : Shared), zs.length - i = m → i ≤ zs.length → Inv X pins σ H s → Grow H0 H → H it = some (ItN t it i) → H q0 = some (.lst (zs.take i)) → codeAny (model X.prog X.w) A1 (.builtin "list.extend.loop" ⟨[.ref q0, .ref it, .none], []⟩) Rs s := by
  intro m
  induction m with
  | zero =>
    intro i H s hm hi I g h1 h2
    refine codeAny_builtin PySem.F.entry_extend_loop ?_
    rw [Around.under_plainId PySem.F.plain_extend_loop _]
    obtain ⟨its, rv, e, hzz⟩ := I.tuple (hsq _ g)
    have x1 : s.heap.IsTupleIter it t i := (I.hok it _ h1).1
    have hl := Vals.length rv
    refine (show wpAny _ A1.in1 (pyNext (.ref it) >>= _) _ _ s from wpAny_bind (next_end hh x1 e (by simp; omega) fun h' hx ⟨o, ho⟩ => wpAny_pure ?_))
    have I2 : Inv X pins σ (upd H it (AnyO it)) { s with heap := h', toks := s.toks } := I.write (x := it) (e := it) (by rw [h1]; exact trivial) (.inl rfl) (fun b u hb hu => hx b u hb hu) ⟨o, ho⟩ (anyO_ok ho)
    refine hdone _ _ I2 (fun b u hb => ?_) ?_
    · by_cases z : b = it
      · rw [z, f2] at hb; cases hb
      · rw [upd_ne z]; exact g b u hb
    · rw [upd_ne hne, h2, List.take_of_length_le (by omega)]
  | succ m ih =>
    intro i H s hm hi I g h1 h2
    refine codeAny_builtin PySem.F.entry_extend_loop ?_
    rw [Around.under_plainId PySem.F.plain_extend_loop _]
    obtain ⟨its, rv, e, hzz⟩ := I.tuple (hsq _ g)
    have x1 : s.heap.IsTupleIter it t i := (I.hok it _ h1).1
    have hl := Vals.length rv
    have hi2 : i < zs.length := by omega
    have hi3 : i < its.length := by omega
    refine (show wpAny _ A1.in1 (pyNext (.ref it) >>= _) _ _ s from wpAny_bind (wpAny_pyNext_tuple_item x1 e (x := its[i]) (by simp [hi3]) fun h' hx hs => ?_))
    obtain ⟨o, ho, hr⟩ := id hx
    have hr1 : RelV zs[i] its[i] := by
      obtain ⟨u, e1, e2⟩ := Vals.get (i := i) rv (List.getElem?_eq_getElem hi2)
      rw [List.getElem?_eq_getElem hi3] at e1
      cases e1
      exact e2
    have I2 : Inv X pins σ (upd H it (ItN t it (i + 1))) { s with heap := h', toks := s.toks } := I.write (x := it) (e := it) (by rw [h1]; exact trivial) (.inl rfl) (fun b u hb hu => hs.extBut b u hb hu) ⟨o, ho⟩ (itN_ok hx)
    have h3 : upd H it (ItN t it (i + 1)) q0 = some (.lst (zs.take i)) := by rw [upd_ne hne]; exact h2
    obtain ⟨z, is, k, r2, hl2, e2⟩ := I2.lstM h3
    have hlk := Vals.length r2
    rw [List.length_take] at hlk
    refine (show wpAny _ A1.in1 (updateSeq q0 (·.push its[i]) >>= _) _ _ _ from wpAny_bind (wpAny_updateSeq e2 rfl (wpAny_pure ⟨plainId_quiet PySem.F.plain_extend_loop _, ?_⟩) (by rw [List.size_toArray]; omega) (by show (is.toArray.push its[i]).size ≤ sizeLine + 1; rw [Array.size_push, List.size_toArray]; omega)))
    have I3 := I2.lset (f := (·.push its[i])) (its' := is ++ [its[i]]) (ys := zs.take (i + 1)) (t' := s.toks) h3 e2 (by simp) (by rw [List.take_add_one, List.getElem?_eq_getElem hi2]; exact r2.append (.cons hr1 .nil)) (by rw [List.length_take]; omega)
    refine ih (i + 1) _ _ (by omega) (by omega) I3 (fun b u hb => ?_) ?_ upd_same
    · have z1 : b ≠ q0 := fun z => by rw [z, f1] at hb; cases hb
      have z2 : b ≠ it := fun z => by rw [z, f2] at hb; cases hb
      rw [upd_ne z1, upd_ne z2]
      exact g b u hb
    · rw [upd_ne (Ne.symm hne)]; exact upd_same
end
section
variable {prog : Program} {w : World} {A : Around} {E : Value → Shared → Prop} {s : Shared} {t : Addr} {items : Array Value}
theorem iter_tup {Q : Value → Shared → Prop} (ht : s.heap.IsTuple t items) (h : Q (.ref s.heap.objs.size) { s with heap := s.heap.push { cls := .type "tuple_iterator", data := .fields #[.ref t, .int 0 0] } }) : wpAny (model prog w) A (call (.builtin "iter") [.ref t]) Q E s := by
  refine Calls.call_function_entry (by decide +kernel) (by decide +kernel) PySem.W.kdk_entry_iter (PySem.W.kdk_args_iter _) (show wpAny _ _ (Builtin.«iter» _) _ _ _ from ?_)
  unfold Builtin.«iter»
  exact wpAny_bind (m := someArgs "iter" 1 2 _) (wpAny_of_eq (a := [Value.ref t]) (by first | rfl | kernel_rfl!) (show wpAny _ _ (pyIter (.ref t) >>= _) _ _ _ from wpAny_bind (wpAny_pyIter_tuple ht (wpAny_pure ⟨_, rfl, h⟩))))
end
def rIterT (K : PySem.W.Frag) : List V → Hp → VK → Prop := fun xs H Q => ∃ (t : Addr) (zs : List V), xs = [.ref t] ∧ SqT K H t zs ∧ ∀ it, H it = none → Q (.ref it) (upd H it (ItT t it))
section
variable {X : Cx}
theorem call_iterT : CallR X (.builtin "iter") (rIterT X.K) := by
  intro pins s σ H xs us Q I r h
  obtain ⟨t, zs, rfl, hq, q⟩ := h
  obtain ⟨u, rfl, ru⟩ := r.one
  cases ru
  obtain ⟨its, rv, e, hz⟩ := I.tuple hq
  refine iter_tup e ?_
  exact ⟨.ref s.heap.objs.size, _, I.laid (t' := s.toks) (fun b u e => Heap.get?_push_of_some _ e) (Nat.le_refl _) (itT_ok ⟨_, Heap.get?_push_size _ rfl, rfl, rfl⟩), rfl, q _ (I.hok.fresh (Nat.le_refl _))⟩
end
/-- what __iter__ promises -/
def spIt (K : PySem.W.Frag) (C : Addr) (i : Nat) : Sp := fun vs H Q _ => ∃ (a dx t : Addr) (ws : List (Option V)) (zs : List V), vs = [.ref a] ∧ SlX.Slt H a C dx ws ∧ ws[i]? = some (some (.ref t)) ∧ SqT K H t zs ∧ ∀ it, H it = none → Q (.ref it) (upd H it (ItT t it))
section
variable {P : Program} {wo : World} {K : PySem.W.Frag} {mg : Str → Option Value} {base : Heap}
theorem it_ok {qual f : Str} {st : Stmt} {a : Addr} {fd : FuncData} {C : Addr} {i k : Nat} {p : Addr} {p1 p2 p3 p4 p5 : Pos} (F : Fun K "__iter__" qual st a fd) (S : FnScope ["self"] ["self"] (defScope st)) (hb : defBody st = [.Return (some (.Call (.Name "iter" p1) [.Attribute (.Name "self" p2) f p3] [] p4)) p5])
    (hc : SlX.SCls K C) (h1 : SlX.Slot1 K C f p i) (hg : (defScope st).names.lookup ("iter" : Str) = some .globalImplicit) (hs : (defScope st).names.lookup ("self" : Str) = some .local) (hm : mg "iter" = none) (bi : Binds K fd ["self"] []) : FnR P wo K mg base CX0 (k + 1) a (spIt K C i) := by
  have len : ∀ vs H Q E, spIt K C i vs H Q E → vs.length = ["self"].length := fun vs H Q E h => by
    obtain ⟨a, dx, t, ws, zs, rfl, _⟩ := h
    rfl
  have F2 : FnOk P wo K mg base CX0 (k + 1) a fd ["self"] (spIt K C i) := F.ok S len fun cdv A outer s H vs Q E hr h => by
    rw [hb]
    obtain ⟨o, dx, t, ws, zs, rfl, hsl, hw, ht, q⟩ := h
    have px : PE (cxOf CX0 P wo K mg base ["self"] qual (defScope st) a cdv A outer s H E).nox (.Name "self" p2) (tVar 0) := pe_var rfl (.inl hs) (by decide) (by decide)
    refine ⟨_, pss_one (ps_ret (pe_callB call_iterT hg hm (by decide +kernel) (pa_cons (SlX.pe_sl px rfl) pa_nil rfl) (by decide) (by decide) rfl)), ?_⟩
    refine ⟨.ref o, rfl, o, C, dx, p, ws, i, .ref t, rfl, hsl, hc, h1, hw, t, zs, rfl, ht, q⟩
  exact (F2.raw bi .nil).imp fun vs H Q E h => by rw [List.append_nil]; exact h
end
def rListOb (K : PySem.W.Frag) (C : Addr) (i : Nat) (spL : Sp) : List V → Hp → VK → Prop := fun xs H Q => ∃ (a dx t : Addr) (ws : List (Option V)) (zs : List V), xs = [.ref a] ∧ ws[i]? = some (some (.ref t)) ∧ H a ≠ none ∧ (∀ H1, Grow H H1 → SlX.Slt H1 a C dx ws ∧ SqT K H1 t zs ∧
  spL [.ref a] H1 (fun z H' => ∃ k : Int, z = .int k ∧ 0 ≤ k ∧ k < 10000 ∧ Grow H1 H') E0) ∧ ∀ q H', Grow H H' → H q = none → H' q = some (.lst zs) → Q (.ref q) H'
section
variable {X : Cx} {C fi fl : Addr} {i n : Nat} {spL : Sp}
theorem run0 {A : Around} {Q : VK} {us : List Value} {ws : List V} {g : Addr} {sp : Sp} {pins : List (Addr × Obj)} {σ : L2.St} {H : Hp} {s : Shared} (F : FnR X.prog X.w X.K X.mg X.base CX0 n g sp) (hr : Room n A) (e0 : Env0 X.prog X.w X.K X.mg X.base A X.stack s H) (I : Inv X pins σ H s) (r : Vals ws us) (h : sp ws H Q E0) :
    wpAny (model X.prog X.w) A (call (.ref g) us) (EP X pins σ Q) (fun _ _ => False) s := by
  refine wpAny_call (codeAny_mono (F A X.stack s H us ws Q E0 hr e0 r h) fun r s' hq => ?_)
  cases r with
  | error e => exact (show False from hq).elim
  | ok fl =>
    cases fl with
    | ret u => exact I.after hq
    | next => exact hq.elim
    | brk => exact hq.elim
    | cont => exact hq.elim
theorem call_listOb (hc : X.calm = true) (hs : PySem.W.findIn X.K (.ref C) "__iter__" = some (some (.ref fi))) (hf : PySem.W.isFn X.K (.ref fi) = true) (FI : FnR X.prog X.w X.K X.mg X.base CX0 n fi (spIt X.K C i))
    (hl : PySem.W.findIn X.K (.ref C) "__len__" = some (some (.ref fl))) (hlf : PySem.W.isFn X.K (.ref fl) = true) (FL : FnR X.prog X.w X.K X.mg X.base CX0 n fl spL) (hr : Room (n + 3) X.A) : CallR X (.type "list") (rListOb X.K C i spL) := by
  intro pins s σ H xs us Q I rv h
  obtain ⟨a, dx, t, ws, zs, rfl, hw, hane, hall, q⟩ := h
  obtain ⟨u, rfl, ru⟩ := rv.one
  cases ru
  have r1 : Room (n + 1) X.A.in1.in1 := (show Room (n + 2) X.A.in1 from Room.in1 hr).in1
  refine callType_codes (Q₁ := fun obj s₁ => obj = .ref s.heap.objs.size ∧ s₁ = { s with heap := s.heap.push { cls := .type "list", data := .seq #[] } }) PySem.F.called_list (PySem.F.typeCall_list_1 _) PySem.F.entry_list_init (code_list_new _ ⟨rfl, rfl⟩) fun obj s₁ h₁ => ?_
  obtain ⟨rfl, rfl⟩ := h₁
  generalize hq0 : s.heap.objs.size = q0
  have hS : (s.heap.push { cls := .type "list", data := .seq #[] }).get? q0 = some { cls := .type "list", data := .seq #[] } := by rw [← hq0]; exact Heap.get?_push_size _ rfl
  refine ⟨⟨_, hS, rfl⟩, PySem.F.args_list_init_2 _ _, ?_⟩
  have fr : H q0 = none := by rw [← hq0]; exact I.hok.fresh (Nat.le_refl _)
  have I1 : Inv X pins σ (upd H q0 (.lst [])) { s with heap := s.heap.push { cls := .type "list", data := .seq #[] } } := by rw [← hq0]; exact I.lnew (its := []) (t' := s.toks) .nil (Nat.zero_le _)
  show wpAny _ _ (Builtin.List.listItems (.ref q0) >>= fun old => Builtin.List.listUpdate (.ref q0) (fun _ => #[]) >>= fun _ => letGo old.toList.reverse >>= fun _ => Builtin.List.listExtendWith (.ref q0) (.ref a) .none) _ _ _
  refine wpAny_bind (show wpAny _ _ (Builtin.List.listItems (.ref q0)) _ _ _ from ?_)
  unfold Builtin.List.listItems
  refine wpAny_bind (wpAny_seqItems hS rfl (wpAny_pure (show wpAny _ _ (updateSeq q0 (fun _ => #[]) >>= _) _ _ _ from wpAny_bind (wpAny_updateSeq hS rfl ?_))))
  have I2 := I1.lset (f := fun _ => #[]) (its := []) (its' := []) (ys := []) (t' := s.toks) upd_same hS rfl .nil (Nat.zero_le _)
  rw [upd_upd] at I2
  refine wpAny_bind (wpAny_letGo ?_)
  have g2 : Grow H (upd H q0 (.lst [])) := Grow.new fr
  obtain ⟨hsl, hsq, hln⟩ := hall _ g2
  obtain ⟨sl, od, _, J, _⟩ := SlX.slt_inst I2 hsl
  obtain ⟨m0, hF⟩ := I2.fr
  have ne : q0 ≠ a := fun z => hane (z ▸ fr)
  unfold Builtin.List.listExtendWith
  refine wpAny_bind (J.type.here ?_)
  have n1 : Builtin.List.listSameRef (.ref q0) (.ref a) = false := by simp [Builtin.List.listSameRef, ne]
  simp only [n1, show (Value.ref C == Value.type "list") = false from rfl, show (Value.ref C == Value.type "tuple") = false from rfl, Bool.or_false, Bool.false_eq_true, if_false]
  refine wpAny_bind (PySem.W.owit_iter hF I2.ok.mod.kin J hs hf ?_)
  have hsp : spIt X.K C i [.ref a] (upd H q0 (.lst [])) (fun v H' => ∃ it, v = .ref it ∧ (upd H q0 (.lst [])) it = none ∧ H' = upd (upd H q0 (.lst [])) it (ItT t it)) E0 := ⟨a, dx, t, ws, zs, rfl, hsl, hw, hsq, fun it hit => ⟨it, rfl, hit, rfl⟩⟩
  refine wpAny_mono (wpAny_call (SlX.run_at (us := [.ref a]) (ws := [.ref a]) FI (r1.mono (by omega)) I2.env0.in1.in1 pass0 I2 (.cons rfl .nil) hsp)) (fun v s3 z => ?_) fun _ _ x => x
  obtain ⟨z', H3, I3, rz, it, rfl, hit, rfl⟩ := z
  cases rz
  have g3 : Grow (upd H q0 (.lst [])) (upd (upd H q0 (.lst [])) it (ItT t it)) := Grow.new hit
  obtain ⟨oit, eit, cit, dit⟩ := (show s3.heap.IsTupleIter it t 0 from (I3.hok it _ upd_same).1)
  have hT : s3.TypeIs (.ref it) "tuple_iterator" := ⟨oit, eit, cit⟩
  refine wpAny_specialOf (name := Str.ofString "__next__") hT PySem.F.slot_tuple_iterator_next.lookup ?_
  obtain ⟨hsl3, hsq3, hln3⟩ := hall _ (g2.trans g3)
  obtain ⟨sl3, od3, _, J3, _⟩ := SlX.slt_inst I3 hsl3
  obtain ⟨m3, hF3⟩ := I3.fr
  refine wpAny_bind (wpAny_holding ?_)
  unfold Builtin.List.listLengthHint
  refine wpAny_bind (wpAny_bind (J3.type.here ((PySem.W.looks_findIn I3.kIn hl).here ?_)))
  refine PySem.W.KFB.if_not rfl ?_
  refine PySem.W.KFB.if_so rfl ?_
  refine wpAny_bind (wpAny_rule (wpAny_bind (wpAny_attempt ?_)))
  refine PySem.W.len_K hF3 I3.ok.mod.kin J3 hl hlf (wpAny_mono (run0 (us := [.ref a]) (ws := [.ref a]) FL (show Room n X.A.in1.in1.in1 from Room.in1 r1) I3.env0.in1.in1.in1 I3 (.cons rfl .nil) hln3) (fun v s4 z => ?_) fun _ _ x => x.elim)
  obtain ⟨z', H4, I4, rz, k, rfl, k0, k1, g4⟩ := z
  obtain ⟨tk, rfl⟩ := (show ∃ tk, v = Value.int k tk from rz)
  refine ⟨⟨k0, by omega⟩, ?_⟩
  refine wpAny_bind (m := asInt? (.int k _)) (wpAny_pure ?_)
  have tl : Builtin.List.listTooLong k.toNat = false := by
    unfold Builtin.List.listTooLong
    rw [sizeLine_eq]
    simp
    omega
  simp only [tl, Bool.false_eq_true, if_false]
  refine wpAny_pure ?_
  have e4 : H4 q0 = some (.lst []) := g4 _ _ (g3 _ _ upd_same)
  have e5 : H4 it = some (ItN t it 0) := g4 _ _ upd_same
  have hqi : q0 ≠ it := fun z => by rw [← z, upd_same] at hit; cases hit
  have gA : Grow H H4 := (g2.trans g3).trans g4
  have f2 : H it = none := by rw [upd_ne (Ne.symm hqi)] at hit; exact hit
  have hz : zs.length ≤ sizeLine := by
    obtain ⟨its, rv, e, hz⟩ := I4.tuple (hall _ gA).2.1
    have := Vals.length rv
    first | omega | (simp at hz; omega)
  have I5 : Inv X pins σ H4 { s4 with toks := s4.toks + 1 } := I4.tok _
  have key : ∀ s5, Inv X pins σ H4 s5 → codeAny (model X.prog X.w) X.A.in1 (.builtin "list.extend.loop" ⟨[.ref q0, .ref it, .none], []⟩) (wants (fun r s₂ => r = .none ∧ EP X pins σ Q (.ref q0) s₂) X.xe) s5 := fun s5 I6 =>
    loopT (H0 := H) (show X.A.in1.in1.handled = none from I.ok.hd hc) hqi fr f2 (fun H1 g => (hall _ g).2.1) (fun H' s' I' g e => ⟨rfl, .ref q0, H', I', rfl, q q0 H' g fr e⟩) hz _ 0 H4 s5 rfl (Nat.zero_le _) I6 gA e5 e4
  obtain ⟨z, its, kk, r3, hl3, e3⟩ := I5.lstM e4
  cases r3
  refine wpAny_ite_split (fun _ => ?_) (fun _ => wpAny_pure ⟨plainId_quiet PySem.F.plain_extend_loop _, key _ I5⟩)
  refine wpAny_bind (wpAny_rule (wpAny_bind (show wpAny _ _ (updateSeq q0 (·.push .none) >>= fun _ => updateSeq q0 (·.pop)) _ _ _ from wpAny_bind (wpAny_updateSeq e3 rfl ?_))))
  have J2 := I5.lset (f := (·.push Value.none)) (its' := [Value.none]) (ys := [.non]) (t' := s4.toks + 1) e4 e3 (by simp) (.cons rfl .nil) (by rw [List.length_singleton, sizeLine_eq]; decide)
  obtain ⟨z4, its4, k4, r4, hl4, e6⟩ := J2.lstM upd_same
  obtain ⟨u4, rfl, ru4⟩ := r4.one
  refine wpAny_updateSeq e6 rfl (wpAny_pure ⟨plainId_quiet PySem.F.plain_extend_loop _, key _ ?_⟩) (by show 1 ≤ sizeLine; rw [sizeLine_eq]; decide) (by show 0 ≤ sizeLine + 1; exact Nat.zero_le _)
  have J3 := J2.lset (f := (·.pop)) (its := [u4]) (its' := []) (ys := []) (t' := s4.toks + 1) upd_same e6 (by rfl) .nil (Nat.zero_le _)
  rw [upd_upd, show upd H4 q0 (.lst []) = H4 from funext fun b => by by_cases hb : b = q0; (rw [hb, upd_same, e4]); (rw [upd_ne hb])] at J3
  exact J3
end
def ItrOk (P : Program) (wo : World) (K : PySem.W.Frag) (mg : Str → Option Value) (base : Heap) (w : Wd) (g : Addr) (c i j : Nat) : Prop := FnR P wo K mg base CX0 j g (spIt K (w.cl c) i)
def listOb (c i : Nat) (f : Fn) : D → Option Vl
  | .obj c' fs => if c' = c then (match fs[i]?, fnN f [.obj c' fs] with
    | some (.tup ds), some (.int k, false) => if 0 ≤ k ∧ k < 10000 then some (.lst ds, true) else none
    | _, _ => none) else none
  | _ => none
section
variable {w : Wd} {W : WX} {X : Cx} {pos p : Pos} {e : Expr} {mr : MA} {c i n : Nat} {g gi : Addr} {fn : Fn}
theorem repl_at {w : Wd} {O : Av} {H : Hp} : ∀ {ds : List D} {vs : List V} {i : Nat} {d : D}, RepL w O H ds vs → ds[i]? = some d → ∃ v, vs[i]? = some v ∧ Rep w O H d v
  | [], _, i, d, _, h => by simp at h
  | d0 :: ds, vs, 0, d, r, h => by
    simp only [RepL] at r
    obtain ⟨v, vs', rfl, hv, _⟩ := r
    cases h
    exact ⟨v, rfl, hv⟩
  | d0 :: ds, vs, i + 1, d, r, h => by
    simp only [RepL] at r
    obtain ⟨v, vs', rfl, _, hr⟩ := r
    exact repl_at (i := i) hr h
theorem pm_listOb (hK : w.K = X.K) (hi : DunOk w c "__iter__" gi) (FI : ItrOk X.prog X.w X.K X.mg X.base w gi c i n) (hp : DunOk w c "__len__" g) (F : MthOk X.prog X.w X.K X.mg X.base w g 1 n fn) (hr : Room (n + 3) X.A) (hg : Gl X "list") (hm : X.mg "list" = none) (ha : PMA X w W [e] mr) (hc : X.calm = true := by rfl) (he : starEach [e] X.env = (false, eval e X.env) :: starEach [] X.env := by rfl) : PM X w W (.Call (.Name "list" p) [e] [] pos) (mCall (one1 (listOb c i fn)) mr) :=
  pm_callTy (call_listOb hc (hK ▸ hi.at_) (hK ▸ hi.fn) FI (hK ▸ hp.at_) (hK ▸ hp.fn) F hr) (fun O H xs z vs Q dm e rs k => by
    obtain ⟨x, rfl, ez⟩ := one1_some e
    clear e
    obtain ⟨v, rfl, hv⟩ := repl1 rs
    unfold listOb at ez
    split at ez
    · rename_i c' fs
      split at ez
      · rename_i ec
        split at ez
        · rename_i ds kk e1 e2
          split at ez
          · rename_i hk
            cases ez
            have hv0 := hv
            simp only [Rep] at hv
            obtain ⟨a, dx', vs', ea', hne, n1, n2, h3, h4, h5⟩ := hv
            subst ea'
            obtain ⟨tv, et, ht⟩ := repl_at h5 e1
            simp only [Rep] at ht
            obtain ⟨t, zs, rfl, t1, t2⟩ := ht
            refine ⟨a, dx', t, vs'.map some, zs, rfl, ?_, by rw [h3]; simp, fun H1 g1 => ⟨.inr ⟨ec ▸ g1 _ _ h3, g1 _ _ h4⟩, hK ▸ (sq_of_rep t1).imp (fun z => z.imp (fun z => g1 _ _ z) fun z => z.imp fun _ z => g1 _ _ z) id, ?_⟩, fun q H' g' hq hq' => ?_⟩
            · rw [List.getElem?_map, et]; rfl
            · refine sp_of (O := O) (fun b hb => g1.dom (dm b hb)) rfl e2 (by simp only [RepL]; exact ⟨_, _, rfl, Rep.step g1.step _ _ hv0, rfl⟩) fun v' H' gr gv => ?_
              have gv : Rep w O H' (.int kk) v' := gv
              simp only [Rep] at gv
              exact ⟨kk, gv, hk.1, hk.2, gr⟩
            · exact k _ _ g' ⟨q, .lst ds, rfl, hq, rfl, ⟨zs, hq', RepL.step (ins_step g' hq) ds zs t2⟩⟩
          · cases ez
        · cases ez
      · cases ez
    · cases ez) hg hm (by decide +kernel) ha (by decide) (by decide) he
end
end PM

/-! sets of texts: set(xs), sorted(set), len(set) -/
namespace PM
open PySem PySem.Spec PyProof.Rows L2
def keyS (e : Int × Value) : Str := match e.2 with
  | .str k _ => k
  | _ => Str.empty
def GoodS (w : World) (e : Int × Value) : Prop := ∃ k tk, e.2 = Value.str k tk ∧ e.1 = hashStr w k
/-- the set of the texts l at a -/
structure SetS (w : World) (h : Heap) (a : Addr) (l : List Str) : Prop where
  ex : ∃ o es ep t, h.get? a = some o ∧ o.ExactSet ∧ o.data = .set es ep t ∧ (∀ e ∈ es.toList, GoodS w e) ∧ (es.toList.map keyS).Perm l ∧ es.size < scanBound ∧ t.fits es.size = true ∧ Ris t.place.toList ∧ (w.params.followText "set-order" = true ∨ t.led = true)
  nd : l.Nodup
section
variable {P : Program} {w : World} {A : Around} {E : Value → Shared → Prop} {s : Shared} {a : Addr} {l : List Str} {h h' : Heap}
theorem SetS.at (R : SetS w h a l) (k : ∀ o, h.get? a = some o → h'.get? a = some o) : SetS w h' a l := by
  obtain ⟨⟨o, es, ep, t, ho, r⟩, nd⟩ := R
  exact ⟨⟨o, es, ep, t, k o ho, r⟩, nd⟩
theorem goodS_elems {es : List (Int × Value)} (g : ∀ e ∈ es, GoodS w e) : ElemsOf (strKind P w) es := fun e he => by
  obtain ⟨k, tk, h1, h2⟩ := g e he
  exact ⟨⟨k, by rw [h1]; exact strKind_is P w k tk, h2⟩, by rw [h1] <;> rfl⟩
theorem goodS_is {e : Int × Value} (g : GoodS w e) (k : Str) : (strKind P w).is k e.2 = true ↔ keyS e = k := by
  obtain ⟨k0, tk, h1, _⟩ := g
  unfold keyS
  rw [h1]
  show Value.isStrOf k (.str k0 tk) = true ↔ k0 = k
  simp [Value.isStrOf]
theorem goodS_mem {es : List (Int × Value)} (g : ∀ e ∈ es, GoodS w e) (k : Str) : k ∈ es.map keyS ↔ ∃ e ∈ es, (strKind P w).is k e.2 = true := by
  rw [List.mem_map]
  exact ⟨fun ⟨e, he, q⟩ => ⟨e, he, (goodS_is (g e he) k).2 q⟩, fun ⟨e, he, q⟩ => ⟨e, he, (goodS_is (g e he) k).1 q⟩⟩
theorem setS_tail {g : Bool → Sem Unit} (hg : ∀ (b : Bool) (s₁ : Shared) (Q' : Unit → Shared → Prop), Q' () s₁ → wpAny (model P w) A (g b) Q' E s₁)
    {o : Obj} {es : Array (Int × Value)} {ep : Nat} {t : SetTable} (ho : s.heap.get? a = some o) (hex : o.ExactSet) (hd : o.data = .set es ep t)
    {es1 : Array (Int × Value)} {t2 : SetTable} {l' : List Str} (g1 : ∀ e ∈ es1.toList, GoodS w e) (p1 : (es1.toList.map keyS).Perm l') (nd1 : l'.Nodup)
    (hb1 : es1.size < scanBound) (hf2 : t2.fits es1.size = true) (hr : Ris t2.place.toList) (hl : w.params.followText "set-order" = true ∨ t2.led = true) {wasDummy : Bool} {R : Option Bool → Shared → Prop}
    (hR : ∀ h', Heap.SameBut a s.heap h' → SetS w h' a l' → R (some true) { s with heap := h' }) :
    wpAny (model P w) A (do
        storeSet a es1 t2
        if (!wasDummy && t2.tooFull) = true then do
            g (relayAll t2 es1 (SetTable.grown es1.size)).2.2
            storeSet a (relayAll t2 es1 (SetTable.grown es1.size)).1 (relayAll t2 es1 (SetTable.grown es1.size)).2.1
            pure (some true)
          else pure (some true)) R E s := by
  refine wpAny_bind (wpAny_storeSet_of ho hd ?_ (fits_of_scanBound hb1))
  have o1 := store_at (es' := es1) (t' := t2) ho hd
  have b1 := Heap.SameBut.update s.heap a (Obj.putSet es1 t2)
  split
  · have q1 := relayAll_perm t2 es1 (SetTable.grown es1.size)
    have q2 := relayAll_fits t2 es1 (SetTable.grown es1.size)
    have q3 := relayAll_ris t2 es1 (SetTable.grown es1.size)
    have q4 := relayAll_led t2 es1 (SetTable.grown es1.size)
    generalize relayAll t2 es1 (SetTable.grown es1.size) = Z at q1 q2 q3 q4 ⊢
    obtain ⟨es2, t3, gave⟩ := Z
    dsimp only at q1 q2 q3 q4 ⊢
    have z2 : es2.size = es1.size := by rw [← Array.length_toList, q1.length_eq, Array.length_toList]
    have b2 : es2.size < scanBound := by rw [z2]; exact hb1
    refine wpAny_bind (hg _ _ _ (wpAny_bind (wpAny_storeSet_of o1 rfl (wpAny_pure (hR _ (b1.trans (Heap.SameBut.update _ a _)) ⟨⟨_, es2, _, t3, store_at (es' := es2) (t' := t3) o1 rfl, hex, rfl, fun e he => g1 e (q1.mem_iff.mp he), (q1.map keyS).trans p1, b2, q2, q3, hl.imp id fun z => by rw [q4]; exact z⟩, nd1⟩)) (fits_of_scanBound b2))))
  · exact wpAny_pure (hR _ b1 ⟨⟨_, es1, _, t2, o1, hex, rfl, g1, p1, hb1, hf2, hr, hl⟩, nd1⟩)
theorem setS_add {k : Str} {tk : Tok} {Q : Bool → Shared → Prop} (R : SetS w s.heap a l) (room : l.length + 1 < scanBound)
    (hQ : ∀ h', Heap.SameBut a s.heap h' → SetS w h' a (if k ∈ l then l else k :: l) → ∀ b, Q b { s with heap := h' }) :
    wpAny (model P w) A (setAddHashed a (.str k tk) ((strKind P w).hash k)) Q E s := by
  obtain ⟨⟨o, es, ep, t, ho, hex, hd, g, pm0, hb, hf, hr, hl⟩, nd⟩ := R
  have hkey : (strKind P w).is k (.str k tk) = true := strKind_is P w k tk
  have hsc : (Value.str k tk).scannable = true := rfl
  have hel : ElemsOf (strKind P w) es.toList := goodS_elems g
  unfold setAddHashed setAddHashedIn
  refine wpAny_holding (wpAny_bind (wpAny_setState_of ho hd hf ?_))
  dsimp only
  rw [byScan_of hsc hb hel]
  simp only [↓reduceIte]
  unfold setAddByScan
  refine wpAny_bind (wpAny_bind (wpAny_rule (wpAny_bind (wpAny_setScan_of hkey ho hd hf hel ?_))))
  cases hfi : List.findIdx? (fun e => (strKind P w).is k e.2) es.toList with
  | some j =>
    dsimp only
    obtain ⟨hj, pj, _⟩ := List.findIdx?_eq_some_iff_getElem.mp hfi
    have hk : k ∈ l := pm0.mem_iff.mp ((goodS_mem (P := P) g k).2 ⟨es.toList[j], List.getElem_mem hj, pj⟩)
    rw [if_pos hk] at hQ
    exact wpAny_pure (wpAny_pure (hQ s.heap (Heap.SameBut.refl a s.heap) ⟨⟨o, es, ep, t, ho, hex, hd, g, pm0, hb, hf, hr, hl⟩, nd⟩ _))
  | none =>
    dsimp only
    have hnk : k ∉ l := fun z => by
      obtain ⟨e, he, q⟩ := (goodS_mem (P := P) g k).1 (pm0.mem_iff.mpr z)
      have c := List.findIdx?_eq_none_iff.mp hfi e he
      rw [q] at c
      cases c
    rw [if_neg hnk] at hQ
    have hgw : ∀ (b : Bool) {s₁ : Shared} {Q' : Unit → Shared → Prop}, Q' () s₁ → wpAny (model P w) A (match b with | true => rule "set.scan.the-table-gave-way" | false => pure ()) Q' E s₁ := fun b s₁ Q' q => by cases b <;> first | exact wpAny_pure q | exact wpAny_rule q
    have q1 := layNew_perm t es ((strKind P w).hash k) (.str k tk)
    have q2 := layNew_fits t es ((strKind P w).hash k) (.str k tk)
    have q3 := layNew_ris t es ((strKind P w).hash k) (.str k tk) hr
    have q4 := layNew_led t es ((strKind P w).hash k) (.str k tk)
    generalize layNew t es ((strKind P w).hash k) (.str k tk) = Z at q1 q2 q3 q4 ⊢
    obtain ⟨es1, t1, wasDummy, gave⟩ := Z
    dsimp only at q1 q2 q3 q4 ⊢
    rw [Array.toList_push] at q1
    have pc : es1.toList.Perm (((strKind P w).hash k, Value.str k tk) :: es.toList) := q1.trans (List.perm_append_singleton _ _)
    have pk : (es1.toList.map keyS).Perm (k :: l) := (pc.map keyS).trans (pm0.cons k)
    have g1 : ∀ e ∈ es1.toList, GoodS w e := fun e he => by
      rcases List.mem_cons.mp (pc.mem_iff.mp he) with z | z
      · rw [z]; exact ⟨k, tk, rfl, rfl⟩
      · exact g e z
    have nd1 : (k :: l).Nodup := List.nodup_cons.mpr ⟨hnk, nd⟩
    have hsz : es1.size = l.length + 1 := by
      have e1 := pk.length_eq
      rw [List.length_map, Array.length_toList, List.length_cons] at e1
      exact e1
    have hb1 : es1.size < scanBound := by rw [hsz]; exact room
    have hled : w.params.followText "set-order" = true ∨ t1.led = true := hl.imp id fun z => by rw [q4]; exact z
    refine wpAny_bind (hgw _ ?_)
    split
    · refine wpAny_bind ?_
      rw [hashByValue_scannable 8 hsc]
      refine wpAny_pure (setS_tail ?_ ho hex hd g1 pk nd1 hb1 ?_ ?_ ?_ ?_)
      · intro b s₁ Q' q; cases b <;> first | exact wpAny_pure q | exact wpAny_rule q
      · first | (split <;> first | exact q2 | exact SetTable.fits_plain_off q2) | exact q2
      · first | (split <;> exact q3) | exact q3
      · first | (split <;> exact hled) | exact hled
      · intro h' sb r; dsimp only; exact wpAny_pure (hQ h' sb r _)
    · refine wpAny_bind (wpAny_pure ?_)
      simp only [↓reduceIte]
      refine setS_tail ?_ ho hex hd g1 pk nd1 hb1 q2 q3 hled ?_
      · intro b s₁ Q' q; cases b <;> first | exact wpAny_pure q | exact wpAny_rule q
      · intro h' sb r; dsimp only; exact wpAny_pure (hQ h' sb r _)
theorem setS_fresh (w : World) : SetS w (h.push { cls := .type "set", dict := none, data := .set #[] 0 (.fresh 0 0 (!w.params.followText "set-order")) }) h.objs.size [] :=
  ⟨⟨_, #[], 0, _, Heap.get?_push_size _ rfl, ⟨rfl, rfl, rfl⟩, rfl, (fun e he => by simp at he), (by simp), (by decide), (by rfl), List.Pairwise.nil, by
    show _ ∨ (!w.params.followText "set-order") = true
    cases w.params.followText "set-order"
    · exact .inr rfl
    · exact .inl rfl⟩, List.nodup_nil⟩
/-- what the first i texts make -/
def gotS (xs : List Str) : Nat → List Str
  | 0 => []
  | i + 1 => if xs.getD i Str.empty ∈ gotS xs i then gotS xs i else xs.getD i Str.empty :: gotS xs i
theorem gotS_len (xs : List Str) : ∀ i, (gotS xs i).length ≤ i
  | 0 => Nat.le_refl _
  | i + 1 => by
    have := gotS_len xs i
    unfold gotS
    split
    · omega
    · simp; omega
end
section
variable {prog : Program} {w : World} {A : Around} {R : Result → Shared → Prop} {I : Addr} {fp wr : List Addr} {G : Array GenState → Array GenState → Prop} {n : Nat} {P : Nat → Value → Prop} {St : Nat → Shared → Prop}
theorem loopS (W : WalksS prog w A.in1 I fp wr G n P St) (S : Addr) (hSf : S ∉ fp) (xs : List Str) (hn : n < 4000) (hval : ∀ i v, P i v → ∃ t, v = .str (xs.getD i Str.empty) t) :
    ∀ (k i : Nat) (s : Shared), n - i = k → i ≤ n → St i s → SetS w s.heap S (gotS xs i) →
      (∀ s', Moved (S :: wr) G s s' → SetS w s'.heap S (gotS xs n) → R (.ok (.ret .none)) s') → codeAny (model prog w) A (.builtin "set.update.loop" ⟨[.ref S, .ref I], []⟩) R s := by
  have hSw : S ∉ wr := fun h => hSf (W.sub _ h)
  have hsub : ∀ b ∈ wr, b ∈ S :: wr := fun b hb => List.mem_cons_of_mem _ hb
  intro k
  induction k with
  | zero =>
    intro i s hk hi hst hS hR
    have hin : i = n := by omega
    subst hin
    refine codeAny_builtin PyProof.Rows.F.entry_set_update_loop ?_
    rw [Around.under_plainId PyProof.Rows.F.plain_set_update_loop _]
    exact (show wpAny _ A.in1 (pyNext (.ref I) >>= _) _ _ s from wpAny_bind (W.done s _ _ hst fun s' hm => (show wpAny _ A.in1 (ret Value.none) _ _ s' from wpAny_pure (hR s' (hm.mono hsub) (hS.at fun o e => hm.heap S o hSw e)))))
  | succ k ih =>
    intro i s hk hi hst hS hR
    have hlt : i < n := by omega
    refine codeAny_builtin PyProof.Rows.F.entry_set_update_loop ?_
    rw [Around.under_plainId PyProof.Rows.F.plain_set_update_loop _]
    refine (show wpAny _ A.in1 (pyNext (.ref I) >>= _) _ _ s from wpAny_bind (W.item i s _ _ hlt hst fun v s' hP hst' hm => ?_))
    obtain ⟨t, rfl⟩ := hval i v hP
    have hS' := hS.at fun o e => hm.heap S o hSw e
    refine (show wpAny _ A.in1 (holding [Value.str (xs.getD i Str.empty) t] (setAdd S (.str (xs.getD i Str.empty) t)) >>= _) _ _ s' from wpAny_bind (wpAny_holding ?_))
    unfold setAdd
    refine wpAny_holding (wpAny_bind ((PySem.strKind prog w).pyHash (k := xs.getD i Str.empty) (strKind_is _ _ _ _) ?_))
    have gl := gotS_len xs i
    refine setS_add (s := { s' with toks := s'.toks + 1 }) hS' (by unfold scanBound; omega) fun h' hsb hS2 b => ?_
    refine wpAny_pure ⟨plainId_quiet PyProof.Rows.F.plain_set_update_loop _, ih (i + 1) _ (by omega) hlt (W.frame _ s' _ _ hst' (Nat.le_succ _) fun b hb o e => ?_) hS2 fun s'' hm'' hS'' => ?_⟩
    · rw [hsb.2 b (fun h : b = S => hSf (by rw [← h]; exact hb))]; exact e
    · refine hR s'' (Moved.trans W.gtrans ((hm.mono hsub).then_heap (Nat.le_succ _) fun b o hb e => ?_) hm'') hS''
      rw [hsb.2 b (fun h : b = S => hb (by rw [h]; exact List.mem_cons_self))]; exact e
end
end PM

/-! set(xs), xs texts -/
namespace PM
open PySem PySem.Spec PyProof.Rows L2
section
variable {P : Program} {w : World} {A : Around} {E : Value → Shared → Prop} {s : Shared}
theorem call_setS_list {l : Addr} {items : Array Value} {xs : List Str} {Q : Value → Shared → Prop} (hh : A.handled = none) (hl : s.heap.IsList l items) (hi : StrsAre items.toList xs) (hn : xs.length < 4000)
    (h : ∀ (h' : Heap) (tk : Nat), SetS w h' s.heap.objs.size (gotS xs xs.length) → (∀ b o, s.heap.get? b = some o → h'.get? b = some o) → Q (.ref s.heap.objs.size) { s with heap := h', toks := tk }) : wpAny (model P w) A (call (.type "set") [.ref l]) Q E s := by
  obtain ⟨c, tl, hmro⟩ := PySem.F.called_set.mro
  have hmade := PySem.F.called_set.made
  have hsub := PySem.F.called_set.sub
  refine wpAny_call (codeAny_of_tree (show wpAny _ _ (callAny (.type "set") _) _ _ _ from wpAny_pure ⟨Code.quiet_builtin _ (by decide +kernel), codeAny_builtin PySem.F.entry_type_call ?_⟩))
  rw [Around.under_plain (weight_type_call_type "set" [.ref l] []) rfl]
  have h1 := PySem.F.called_set.notType
  have h2 := PySem.F.called_set.canCreate
  have hct := PySem.F.typeCall_set_1 (.ref l)
  repeat (any_goals (first | assumption | wp_step))
  refine codeAny_mono (code_set_led1 (.ref l) (E := E) (Q₁ := fun obj s₁ => obj = .ref s.heap.objs.size ∧ s₁ = { s with heap := s.heap.push { cls := .type "set", dict := none, data := .set #[] 0 (.fresh 0 0 (!w.params.followText "set-order")) } }) ⟨rfl, rfl⟩) fun r s₁ hr => ?_
  cases r with
  | error e => exact hr
  | ok fl =>
    cases fl with
    | ret obj =>
      obtain ⟨rfl, rfl⟩ := hr
      have hS : (s.heap.push { cls := .type "set", dict := none, data := .set #[] 0 (.fresh 0 0 (!w.params.followText "set-order")) }).get? s.heap.objs.size = some { cls := .type "set", dict := none, data := .set #[] 0 (.fresh 0 0 (!w.params.followText "set-order")) } := Heap.get?_push_size _ rfl
      have hT : Shared.TypeIs { s with heap := s.heap.push { cls := .type "set", dict := none, data := .set #[] 0 (.fresh 0 0 (!w.params.followText "set-order")) } } (.ref s.heap.objs.size) "set" := ⟨_, hS, rfl⟩
      have hli := PySem.F.called_set.init.lookup
      have hbi := PySem.F.called_set.init.bind (.ref s.heap.objs.size)
      repeat (any_goals (first | assumption | wp_step))
      refine codeAny_mono (codeAny_call_builtin (R := wants (fun r s₂ => r = .none ∧ ∃ h' tk, s₂ = { s with heap := h', toks := tk } ∧ SetS w h' s.heap.objs.size (gotS xs xs.length) ∧ (∀ b o, s.heap.get? b = some o → h'.get? b = some o)) E) PySem.F.called_set.init.plain PySem.F.entry_set_init (check_set_init_1 hT ?_)) fun r₂ s₂ hr₂ => ?_
      · obtain ⟨⟨ocls, odict, odata, oslots⟩, hol, hcl, nl, hdl⟩ := hl
        simp only at hcl hdl
        subst hcl; subst hdl
        have hol' : (s.heap.push { cls := .type "set", dict := none, data := .set #[] 0 (.fresh 0 0 (!w.params.followText "set-order")) }).get? l = some { cls := .type "list", dict := odict, data := .seq items nl, slots := oslots } := Heap.get?_push_of_some _ hol
        have hsls := PySem.F.sub_list_set
        have hslf := PySem.F.sub_list_frozenset
        have hne : (Value.type "list" == Value.type "dict") = false := by decide
        have hl1 : (s.heap.push { cls := .type "set", dict := none, data := .set #[] 0 (.fresh 0 0 (!w.params.followText "set-order")) }).IsList l items := ⟨_, hol', rfl, nl, rfl⟩
        unfold Builtin.«set.__init__» noKeywords Builtin.Frozenset.updateFrom
        generalize hPI : pyIter = PI
        wp_walk
        subst hPI
        refine wpAny_pyIter_list hl1 (wpAny_bind (wpAny_runValue ?_))
        have hlS : l < s.heap.objs.size := Heap.lt_size hol
        have hh3 : A.in1.in1.in1.handled = none := by simp [hh]
        have hz1 : (s.heap.push { cls := .type "set", dict := none, data := .set #[] 0 (.fresh 0 0 (!w.params.followText "set-order")) }).objs.size = s.heap.objs.size + 1 := Heap.size_push ..
        have hneI : l ≠ (s.heap.push { cls := .type "set", dict := none, data := .set #[] 0 (.fresh 0 0 (!w.params.followText "set-order")) }).objs.size := by rw [hz1]; exact Nat.ne_of_lt (Nat.lt_succ_of_lt hlS)
        have hSf : s.heap.objs.size ∉ [(s.heap.push { cls := .type "set", dict := none, data := .set #[] 0 (.fresh 0 0 (!w.params.followText "set-order")) }).objs.size, l] := by
          rw [hz1]
          intro hm
          simp only [List.mem_cons, List.not_mem_nil, or_false] at hm
          exact hm.elim (Nat.ne_of_lt (Nat.lt_succ_self _)) (Nat.ne_of_gt hlS)
        have hsz : xs.length = items.size := by rw [← StrsAre.len_eq hi, Array.length_toList]
        have hval : ∀ (i : Nat) (v : Value), items[i]? = some v → ∃ t, v = .str (xs.getD i Str.empty) t := fun i v hv => SS.strs_at hi i v (by rw [Array.getElem?_toList]; exact hv)
        refine loopS ((Walks.list hh3 _ l hneI items).toS) s.heap.objs.size hSf xs (by omega) hval (items.size - 0) 0 _ (by omega) (Nat.zero_le _) ⟨⟨_, Heap.get?_push_size _ rfl, rfl, rfl⟩, (hl1.push _)⟩ ((setS_fresh w).at fun o e => Heap.get?_push_of_some _ e) fun s' hm hS' => ?_
        obtain ⟨h', g', d', tk', os'⟩ := s'
        have eg : g' = s.gens := hm.gens
        have ed : d' = s.drawn := hm.drawn
        have eo : os' = s.os := hm.os
        subst eg; subst ed; subst eo
        rw [← hsz] at hS'
        refine (show wpAny _ _ _ _ _ _ from wpAny_pure (show wpAny _ _ (ret Value.none) _ _ _ from wpAny_pure ⟨rfl, h', tk', rfl, hS', fun b o e => ?_⟩))
        have hb := Heap.lt_size e
        refine hm.heap b o (fun hm2 => ?_) (Heap.get?_push_of_some _ (Heap.get?_push_of_some _ e))
        simp only [List.mem_cons, List.not_mem_nil, or_false] at hm2
        exact hm2.elim (Nat.ne_of_lt hb) fun z => Nat.ne_of_lt (Nat.lt_succ_of_lt hb) (z.trans hz1)
      · cases r₂ with
        | error e => exact hr₂
        | ok fl₂ =>
          cases fl₂ with
          | ret r =>
            obtain ⟨rfl, h', tk, rfl, hS', hk'⟩ := hr₂
            repeat (any_goals (first | assumption | wp_step))
            exact h _ _ hS' hk'
          | _ => exact hr₂.elim
    | _ => exact hr.elim
theorem call_setS_tuple {l : Addr} {items : Array Value} {xs : List Str} {Q : Value → Shared → Prop} (hh : A.handled = none) (hl : s.heap.IsTuple l items) (hi : StrsAre items.toList xs) (hn : xs.length < 4000)
    (h : ∀ (h' : Heap) (tk : Nat), SetS w h' s.heap.objs.size (gotS xs xs.length) → (∀ b o, s.heap.get? b = some o → h'.get? b = some o) → Q (.ref s.heap.objs.size) { s with heap := h', toks := tk }) : wpAny (model P w) A (call (.type "set") [.ref l]) Q E s := by
  obtain ⟨c, tl, hmro⟩ := PySem.F.called_set.mro
  have hmade := PySem.F.called_set.made
  have hsub := PySem.F.called_set.sub
  refine wpAny_call (codeAny_of_tree (show wpAny _ _ (callAny (.type "set") _) _ _ _ from wpAny_pure ⟨Code.quiet_builtin _ (by decide +kernel), codeAny_builtin PySem.F.entry_type_call ?_⟩))
  rw [Around.under_plain (weight_type_call_type "set" [.ref l] []) rfl]
  have h1 := PySem.F.called_set.notType
  have h2 := PySem.F.called_set.canCreate
  have hct := PySem.F.typeCall_set_1 (.ref l)
  repeat (any_goals (first | assumption | wp_step))
  refine codeAny_mono (code_set_led1 (.ref l) (E := E) (Q₁ := fun obj s₁ => obj = .ref s.heap.objs.size ∧ s₁ = { s with heap := s.heap.push { cls := .type "set", dict := none, data := .set #[] 0 (.fresh 0 0 (!w.params.followText "set-order")) } }) ⟨rfl, rfl⟩) fun r s₁ hr => ?_
  cases r with
  | error e => exact hr
  | ok fl =>
    cases fl with
    | ret obj =>
      obtain ⟨rfl, rfl⟩ := hr
      have hS : (s.heap.push { cls := .type "set", dict := none, data := .set #[] 0 (.fresh 0 0 (!w.params.followText "set-order")) }).get? s.heap.objs.size = some { cls := .type "set", dict := none, data := .set #[] 0 (.fresh 0 0 (!w.params.followText "set-order")) } := Heap.get?_push_size _ rfl
      have hT : Shared.TypeIs { s with heap := s.heap.push { cls := .type "set", dict := none, data := .set #[] 0 (.fresh 0 0 (!w.params.followText "set-order")) } } (.ref s.heap.objs.size) "set" := ⟨_, hS, rfl⟩
      have hli := PySem.F.called_set.init.lookup
      have hbi := PySem.F.called_set.init.bind (.ref s.heap.objs.size)
      repeat (any_goals (first | assumption | wp_step))
      refine codeAny_mono (codeAny_call_builtin (R := wants (fun r s₂ => r = .none ∧ ∃ h' tk, s₂ = { s with heap := h', toks := tk } ∧ SetS w h' s.heap.objs.size (gotS xs xs.length) ∧ (∀ b o, s.heap.get? b = some o → h'.get? b = some o)) E) PySem.F.called_set.init.plain PySem.F.entry_set_init (check_set_init_1 hT ?_)) fun r₂ s₂ hr₂ => ?_
      · obtain ⟨⟨ocls, odict, odata, oslots⟩, hol, hcl, nl, hdl⟩ := hl
        simp only at hcl hdl
        subst hcl; subst hdl
        have hol' : (s.heap.push { cls := .type "set", dict := none, data := .set #[] 0 (.fresh 0 0 (!w.params.followText "set-order")) }).get? l = some { cls := .type "tuple", dict := odict, data := .seq items nl, slots := oslots } := Heap.get?_push_of_some _ hol
        have hsls := PySem.F.sub_tuple_set
        have hslf := PySem.F.sub_tuple_frozenset
        have hne : (Value.type "tuple" == Value.type "dict") = false := by decide
        have hl1 : (s.heap.push { cls := .type "set", dict := none, data := .set #[] 0 (.fresh 0 0 (!w.params.followText "set-order")) }).IsTuple l items := ⟨_, hol', rfl, nl, rfl⟩
        unfold Builtin.«set.__init__» noKeywords Builtin.Frozenset.updateFrom
        generalize hPI : pyIter = PI
        wp_walk
        subst hPI
        refine wpAny_pyIter_tuple hl1 (wpAny_bind (wpAny_runValue ?_))
        have hlS : l < s.heap.objs.size := Heap.lt_size hol
        have hh3 : A.in1.in1.in1.handled = none := by simp [hh]
        have hz1 : (s.heap.push { cls := .type "set", dict := none, data := .set #[] 0 (.fresh 0 0 (!w.params.followText "set-order")) }).objs.size = s.heap.objs.size + 1 := Heap.size_push ..
        have hneI : l ≠ (s.heap.push { cls := .type "set", dict := none, data := .set #[] 0 (.fresh 0 0 (!w.params.followText "set-order")) }).objs.size := by rw [hz1]; exact Nat.ne_of_lt (Nat.lt_succ_of_lt hlS)
        have hSf : s.heap.objs.size ∉ [(s.heap.push { cls := .type "set", dict := none, data := .set #[] 0 (.fresh 0 0 (!w.params.followText "set-order")) }).objs.size, l] := by
          rw [hz1]
          intro hm
          simp only [List.mem_cons, List.not_mem_nil, or_false] at hm
          exact hm.elim (Nat.ne_of_lt (Nat.lt_succ_self _)) (Nat.ne_of_gt hlS)
        have hsz : xs.length = items.size := by rw [← StrsAre.len_eq hi, Array.length_toList]
        have hval : ∀ (i : Nat) (v : Value), items[i]? = some v → ∃ t, v = .str (xs.getD i Str.empty) t := fun i v hv => SS.strs_at hi i v (by rw [Array.getElem?_toList]; exact hv)
        refine loopS ((Walks.tuple hh3 _ l hneI items).toS) s.heap.objs.size hSf xs (by omega) hval (items.size - 0) 0 _ (by omega) (Nat.zero_le _) ⟨⟨_, Heap.get?_push_size _ rfl, rfl, rfl⟩, (hl1.push _)⟩ ((setS_fresh w).at fun o e => Heap.get?_push_of_some _ e) fun s' hm hS' => ?_
        obtain ⟨h', g', d', tk', os'⟩ := s'
        have eg : g' = s.gens := hm.gens
        have ed : d' = s.drawn := hm.drawn
        have eo : os' = s.os := hm.os
        subst eg; subst ed; subst eo
        rw [← hsz] at hS'
        refine (show wpAny _ _ _ _ _ _ from wpAny_pure (show wpAny _ _ (ret Value.none) _ _ _ from wpAny_pure ⟨rfl, h', tk', rfl, hS', fun b o e => ?_⟩))
        have hb := Heap.lt_size e
        refine hm.heap b o (fun hm2 => ?_) (Heap.get?_push_of_some _ (Heap.get?_push_of_some _ e))
        simp only [List.mem_cons, List.not_mem_nil, or_false] at hm2
        exact hm2.elim (Nat.ne_of_lt hb) fun z => Nat.ne_of_lt (Nat.lt_succ_of_lt hb) (z.trans hz1)
      · cases r₂ with
        | error e => exact hr₂
        | ok fl₂ =>
          cases fl₂ with
          | ret r =>
            obtain ⟨rfl, h', tk, rfl, hS', hk'⟩ := hr₂
            repeat (any_goals (first | assumption | wp_step))
            exact h _ _ hS' hk'
          | _ => exact hr₂.elim
    | _ => exact hr.elim
theorem strs_of : ∀ (vs : List Value), (∀ v ∈ vs, ∃ k tk, v = Value.str k tk) → StrsAre vs (vs.map fun v => keyS (0, v))
  | [], _ => .nil
  | v :: vs, h => by
    obtain ⟨k, tk, rfl⟩ := h v List.mem_cons_self
    exact .cons k tk (strs_of vs fun u hu => h u (List.mem_cons_of_mem _ hu))
theorem sorted_setS {a : Addr} {l : List Str} {Q : Value → Shared → Prop} (R : SetS w s.heap a l) (hh : A.handled = none) (h64 : l.length < 64)
    (hQ : ∀ s' p (out : Array Value) (c : Nat) (ys : List Str), (∀ b o, s.heap.get? b = some o → s'.heap.get? b = some o) → s'.gens = s.gens → s'.os = s.os → s.heap.objs.size ≤ p → s'.heap.get? p = some (seqObj "list" out c) → StrsAre out.toList ys → ys.Perm l → sortedS ys = true → Q (.ref p) s') :
    wpAny (model P w) A (call (.builtin "sorted") [.ref a]) Q E s := by
  obtain ⟨⟨o, es, ep, t, ho, hex, hd, g, pm0, hb, hf, hr, hl⟩, nd⟩ := R
  refine Calls.call_function_entry kind_sorted plain_sorted entry_sorted (args_sorted1 _) ?_
  unfold Builtin.«sorted»
  refine wpAny_bind (m := checkCount "sorted" 1 1 _) (wpAny_pure (wpAny_bind (collect_set (A := A.in1) hh ⟨o, ho, hex.1, hd⟩ hf hb hr hl fun s1 vs k1 hz g1 o1 pm => ?_)))
  have pk : (vs.map fun v => keyS (0, v)).Perm l := by
    have q := pm.map fun v => keyS (0, v)
    rw [List.map_map] at q
    exact q.trans pm0
  have hvl : vs.length = l.length := by have := pk.length_eq; rwa [List.length_map] at this
  have hI : StrsAre vs (vs.map fun v => keyS (0, v)) := strs_of vs fun v hv => by
    obtain ⟨e, he, q⟩ := List.mem_map.mp (pm.mem_iff.mp hv)
    obtain ⟨k, tk, h1, _⟩ := g e he
    exact ⟨k, tk, by rw [← q]; exact h1⟩
  refine wpAny_bind (wpAny_newList ?_ (by rw [hvl, sizeLine_eq]; omega))
  have hoL : (s1.heap.push (seqObj "list" vs.toArray 0)).get? s1.heap.objs.size = some (seqObj "list" vs.toArray 0) := Heap.get?_push_size _ rfl
  refine wpAny_bind (wpAny_holding (wpAny_call_entry PyProof.Rows.slot_list_sort ⟨_, hoL, rfl⟩ PyProof.Rows.entry_list_sort (list_sort_treeK strKind_oneLt (s := { s1 with heap := s1.heap.push (seqObj "list" vs.toArray 0) }) hoL hI.keysOf (fun v₁ v₂ rest e => keyKind_strs (by rw [← e]; exact hI)) (by rw [hvl]; exact h64) fun st' hp hs => ⟨_, rfl, ?_⟩) (PyProof.Rows.args_list_sort _)))
  obtain ⟨ys, y1, y2, y3⟩ := sorted_out_str hI hp hs
  obtain ⟨c, hc⟩ := PyProof.Rows.sortedHeap_at (vs := vs) (out := (arrOf st').map (·.2)) hoL
  refine wpAny_pure ⟨_, rfl, hQ _ s1.heap.objs.size _ c ys (fun b u e => ?_) g1 o1 hz hc y1 (y2.trans pk) y3⟩
  have q := k1 b u e
  have hlt := Heap.lt_size q
  show (sortedHeap (s1.heap.push (seqObj "list" vs.toArray 0)) s1.heap.objs.size vs _).get? b = some u
  rw [sortedHeap_old (Nat.ne_of_lt hlt) (by rw [size_push']; exact Nat.lt_succ_of_lt hlt)]
  exact Heap.get?_push_of_some _ q
end
def SetSO (w : World) (a : Addr) (l : List Str) : HO := .ext fun h => SetS w h a l
theorem setSO_ok {P : Program} {w : World} {H : Hp} {h : Heap} {a : Addr} {l : List Str} (R : SetS w h a l) : ObjOk P w H h a (SetSO w a l) := by
  have ⟨⟨o, _, _, _, ho, _⟩, _⟩ := R
  exact ⟨R, ⟨o, ho⟩, fun h1 h2 p k => SetS.at p k⟩
def rSetS (K : PySem.W.Frag) (w : World) : List V → Hp → VK → Prop := fun xs H Q => ∃ (a : Addr) (zs : List Str), xs = [.ref a] ∧ (SqL K H a (zs.map V.str) ∨ SqT K H a (zs.map V.str)) ∧ zs.length < 4000 ∧ ∀ p, H p = none → Q (.ref p) (upd H p (SetSO w p (gotS zs zs.length)))
def rSortS (w : World) : List V → Hp → VK → Prop := fun xs H Q => ∃ (a : Addr) (l : List Str), xs = [.ref a] ∧ H a = some (SetSO w a l) ∧ l.length < 64 ∧ ∀ ys p, ys.Perm l → sortedS ys = true → H p = none → Q (.ref p) (upd H p (.lst (ys.map V.str)))
def rLenS (w : World) : List V → Hp → VK → Prop := fun xs H Q => ∃ (a : Addr) (l : List Str), xs = [.ref a] ∧ H a = some (SetSO w a l) ∧ l.length < 4000 ∧ Q (.int l.length) H
section
variable {X : Cx}
theorem cr_setS (hc : X.calm = true) : CallR X (.type "set") (rSetS X.K X.w) := by
  intro pins s σ H xs us Q I r h
  obtain ⟨a, zs, rfl, hq, hl, q⟩ := h
  rw [Vals.ref1 r]
  have fin : ∀ (h' : Heap) (tk : Nat), SetS X.w h' s.heap.objs.size (gotS zs zs.length) → (∀ b o, s.heap.get? b = some o → h'.get? b = some o) → EP X pins σ Q (.ref s.heap.objs.size) { s with heap := h', toks := tk } := fun h' tk hS hk =>
    ⟨.ref s.heap.objs.size, _, I.laid hk (Nat.le_refl _) (setSO_ok hS), rfl, q _ (I.hok.fresh (Nat.le_refl _))⟩
  rcases hq with hq | hq
  · obtain ⟨its, rv, pl, hz⟩ := I.list hq
    exact call_setS_list (I.ok.hd hc) pl.isList (by simpa using strsAre_of rv) hl fin
  · obtain ⟨its, rv, pl, hz⟩ := I.tuple hq
    exact call_setS_tuple (I.ok.hd hc) pl (by simpa using strsAre_of rv) hl fin
theorem cr_sortS (hc : X.calm = true) : CallR X (.builtin "sorted") (rSortS X.w) := by
  intro pins s σ H xs us Q I r h
  obtain ⟨a, l, rfl, ha, h64, q⟩ := h
  rw [Vals.ref1 r]
  have R : SetS X.w s.heap a l := (I.hok a _ ha).1
  refine sorted_setS R (I.ok.hd hc) h64 fun s' p out c ys k g o hp hg hi pm so => ?_
  have hlen : (ys.map V.str).length ≤ sizeLine := by rw [List.length_map, pm.length_eq, sizeLine_eq]; omega
  have hn : H p = none := I.hok.fresh hp
  have J : Inv X pins σ (upd H p (.lst (ys.map V.str))) { s with heap := s'.heap, gens := s'.gens, drawn := s'.drawn, toks := s'.toks } :=
    I.call (ch := []) (Un.laid k hp hn) (I.hok.laid k hp ⟨hlen, out.toList, c, vals_of_strs hi, hg⟩) (by rw [g]; exact I.bare) (fun _ z => nomatch z)
  have e : s' = { s with heap := s'.heap, gens := s'.gens, drawn := s'.drawn, toks := s'.toks } := by
    cases s'
    cases s
    cases o
    rfl
  rw [e]
  exact ⟨.ref p, _, J, rfl, q ys p pm so hn⟩
theorem cr_lenS : CallR X (.builtin "len") (rLenS X.w) := by
  intro pins s σ H xs us Q I r h
  obtain ⟨a, l, rfl, ha, h64, q⟩ := h
  rw [Vals.ref1 r]
  obtain ⟨⟨o, es, ep, t, ho, hex, hd, g, pm0, hb, hf, hr, hl⟩, nd⟩ := (show SetS X.w s.heap a l from (I.hok a _ ha).1)
  have hn : es.size = l.length := by
    have e1 := pm0.length_eq
    rwa [List.length_map, Array.length_toList] at e1
  exact call_len_set ho hex hd hf (by rw [hn] <;> omega) ⟨.int l.length, H, I.tok _, ⟨_, by rw [hn]⟩, q⟩
end
end PM

/-! sorted(set(x)), len(set(x)), sorted(d) of texts: what they are worth -/
namespace PM
open PySem PySem.Spec PyProof.Rows L2
def leS (a b : Str) : Bool := !ltCps b.cps.toList a.cps.toList
theorem leS_iff (a b : Str) : leS a b = true ↔ a.cps.toList ≤ b.cps.toList := by
  unfold leS
  rw [ltCps_eq]
  simp
theorem leS_total (a b : Str) : leS a b = true ∨ leS b a = true := by
  rw [leS_iff, leS_iff]
  exact List.le_total _ _
theorem leS_trans {a b c : Str} (h : leS a b = true) (h' : leS b c = true) : leS a c = true := by
  rw [leS_iff] at *
  exact List.le_trans h h'
theorem leS_anti {a b : Str} (h : leS a b = true) (h' : leS b a = true) : a = b := by
  rw [leS_iff] at *
  have e := List.le_antisymm h h'
  obtain ⟨⟨a⟩⟩ := a
  obtain ⟨⟨b⟩⟩ := b
  have e : a = b := e
  rw [e]
def insS (x : Str) : List Str → List Str
  | [] => [x]
  | y :: ys => if leS x y = true then x :: y :: ys else y :: insS x ys
def srtS : List Str → List Str
  | [] => []
  | x :: xs => insS x (srtS xs)
theorem insS_perm (x : Str) : ∀ ys, (insS x ys).Perm (x :: ys)
  | [] => List.Perm.refl _
  | y :: ys => by
    unfold insS
    split
    · exact List.Perm.refl _
    · exact ((insS_perm x ys).cons y).trans (List.Perm.swap x y ys)
theorem srtS_perm : ∀ xs, (srtS xs).Perm xs
  | [] => List.Perm.refl _
  | x :: xs => (insS_perm x (srtS xs)).trans ((srtS_perm xs).cons x)
theorem insS_sorted (x : Str) : ∀ ys, ys.Pairwise (fun a b => leS a b = true) → (insS x ys).Pairwise (fun a b => leS a b = true)
  | [], _ => by simp [insS]
  | y :: ys, h => by
    obtain ⟨h1, h2⟩ := List.pairwise_cons.mp h
    unfold insS
    split
    · rename_i hx
      refine List.pairwise_cons.mpr ⟨fun z hz => ?_, h⟩
      rcases List.mem_cons.mp hz with rfl | hz
      · exact hx
      · exact leS_trans hx (h1 z hz)
    · rename_i hx
      refine List.pairwise_cons.mpr ⟨fun z hz => ?_, insS_sorted x ys h2⟩
      rcases List.mem_cons.mp ((insS_perm x ys).mem_iff.mp hz) with rfl | hz
      · exact (leS_total z y).resolve_left hx
      · exact h1 z hz
theorem srtS_sorted : ∀ xs, (srtS xs).Pairwise (fun a b => leS a b = true)
  | [] => List.Pairwise.nil
  | x :: xs => insS_sorted x _ (srtS_sorted xs)
theorem sorted_uniq : ∀ {a b : List Str}, a.Perm b → a.Pairwise (fun x y => leS x y = true) → b.Pairwise (fun x y => leS x y = true) → a = b
  | [], b, p, _, _ => (List.Perm.nil_eq p)
  | x :: a, [], p, _, _ => by cases p.length_eq
  | x :: a, y :: b, p, h, h' => by
    obtain ⟨h1, h2⟩ := List.pairwise_cons.mp h
    obtain ⟨h3, h4⟩ := List.pairwise_cons.mp h'
    have e : x = y := by
      have m1 : x ∈ y :: b := p.mem_iff.mp List.mem_cons_self
      have m2 : y ∈ x :: a := p.mem_iff.mpr List.mem_cons_self
      rcases List.mem_cons.mp m1 with e | m1
      · exact e
      · rcases List.mem_cons.mp m2 with e | m2
        · exact e.symm
        · exact leS_anti (h1 y m2) (h3 x m1)
    subst e
    rw [sorted_uniq (List.Perm.cons_inv p) h2 h4]
theorem pw_of_sortedS : ∀ {ys : List Str}, sortedS ys = true → ys.Pairwise (fun a b => leS a b = true)
  | [], _ => List.Pairwise.nil
  | [x], _ => by simp
  | x :: y :: ys, h => by
    have h : (leS x y && sortedS (y :: ys)) = true := h
    obtain ⟨h1, h2⟩ := Bool.and_eq_true_iff.mp h
    have ih := pw_of_sortedS h2
    refine List.pairwise_cons.mpr ⟨fun z hz => ?_, ih⟩
    rcases List.mem_cons.mp hz with rfl | hz
    · exact h1
    · exact leS_trans h1 ((List.pairwise_cons.mp ih).1 z hz)
theorem eq_srtS {ys l : List Str} (p : ys.Perm l) (h : sortedS ys = true) : ys = srtS l := sorted_uniq (p.trans (srtS_perm l).symm) (pw_of_sortedS h) (srtS_sorted l)
theorem srtS_eq {l l' : List Str} : srtS l = srtS l' ↔ l.Perm l' := by
  constructor
  · intro h
    exact (srtS_perm l).symm.trans (h ▸ srtS_perm l')
  · intro p
    exact sorted_uniq ((srtS_perm l).trans (p.trans (srtS_perm l').symm)) (srtS_sorted l) (srtS_sorted l')
def strsD : List D → Option (List Str)
  | [] => some []
  | .str x :: ds => (strsD ds).map (x :: ·)
  | _ :: _ => none
theorem strsD_rep {w : Wd} {O : Av} {H : Hp} : ∀ {ds : List D} {vs : List V} {zs : List Str}, strsD ds = some zs → RepL w O H ds vs → vs = zs.map V.str
  | [], vs, zs, h, r => by
    cases h
    simpa [RepL] using r
  | .str x :: ds, vs, zs, h, r => by
    simp only [strsD] at h
    cases q : strsD ds with
    | none => rw [q] at h; cases h
    | some ys =>
      rw [q] at h
      cases h
      simp only [RepL, Rep] at r
      obtain ⟨v, vs', rfl, rfl, r⟩ := r
      rw [strsD_rep q r]
      rfl
def textsD : D → Option (List Str)
  | .tup ds => strsD ds
  | .lst ds => strsD ds
  | _ => none
def sortSetD (x : D) : Option Vl := (textsD x).bind fun zs => if zs.length < 64 then some (.lst ((srtS (gotS zs zs.length)).map .str), true) else none
def lenSetD (x : D) : Option Vl := (textsD x).bind fun zs => if zs.length < 64 then some (dI (gotS zs zs.length).length) else none
theorem repL_strs {w : Wd} {O : Av} {H : Hp} : ∀ zs : List Str, RepL w O H (zs.map D.str) (zs.map V.str)
  | [] => by simp [RepL]
  | z :: zs => by
    simp only [List.map_cons, RepL, Rep]
    exact ⟨_, _, rfl, rfl, repL_strs zs⟩
theorem texts_rep {w : Wd} {K : PySem.W.Frag} {O : Av} {H : Hp} {x : D} {v : V} {zs : List Str} (hK : w.K = K) (h : textsD x = some zs) (r : Rep w O H x v) : ∃ a, v = .ref a ∧ (SqL K H a (zs.map V.str) ∨ SqT K H a (zs.map V.str)) := by
  unfold textsD at h
  split at h
  · simp only [Rep] at r
    obtain ⟨a, vs, rfl, h1, h2⟩ := r
    rw [strsD_rep h h2] at h1
    exact ⟨a, rfl, .inr (hK ▸ sq_of_rep h1)⟩
  · simp only [Rep] at r
    obtain ⟨a, vs, rfl, h1, h2⟩ := r
    rw [strsD_rep h h2] at h1
    exact ⟨a, rfl, .inl (hK ▸ sl_of_rep h1)⟩
  · cases h
section
variable {w : Wd} {W : WX} {X : Cx} {pos p p2 pos2 : Pos} {e : Expr} {mr : MA}
theorem pm_sortSet (hK : w.K = X.K) (hg : Gl X "sorted") (hm : X.mg "sorted" = none) (hg2 : Gl X "set") (hm2 : X.mg "set" = none) (ha : PMA X w W [e] mr) (hc : X.calm = true := by rfl) (he : starEach [e] X.env = (false, eval e X.env) :: starEach [] X.env := by rfl) (he2 : starEach [Expr.Call (.Name "set" p2) [e] [] pos2] X.env = (false, eval (.Call (.Name "set" p2) [e] [] pos2) X.env) :: starEach [] X.env := by rfl) :
    PM X w W (.Call (.Name "sorted" p) [.Call (.Name "set" p2) [e] [] pos2] [] pos) (mCall (one1 sortSetD) mr) := by
  obtain ⟨tr, pr, sr⟩ := ha
  refine ⟨_, pe_callB (cr_sortS hc) hg hm (by decide +kernel) (pa_cons (pe_callTy (cr_setS hc) hg2 hm2 (by decide +kernel) pr (by decide) (by decide) he) pa_nil he2) (by decide) (by decide) he2, ?_⟩
  refine sim_call (r := fun xs H Q => rSetS X.K X.w xs H fun v H1 => rSortS X.w [v] H1 Q) (fun O H xs z vs Q dm e rs k => ?_) sr
  obtain ⟨x, rfl, ez⟩ := one1_some e
  obtain ⟨v, rfl, hv⟩ := repl1 rs
  unfold sortSetD at ez
  cases q : textsD x with
  | none => rw [q] at ez; cases ez
  | some zs =>
    rw [q] at ez
    simp only [Option.bind_some] at ez
    split at ez
    · rename_i hl
      cases ez
      obtain ⟨a, rfl, hq⟩ := texts_rep hK q hv
      have gl := gotS_len zs zs.length
      refine ⟨a, zs, rfl, hq, by omega, fun p1 hp => ⟨p1, _, rfl, upd_same, by omega, fun ys p2 pm so hp2 => ?_⟩⟩
      rw [eq_srtS pm so]
      have ne : H p2 = none := by
        by_cases z : p2 = p1
        · rw [z]; exact hp
        · rw [upd_ne z] at hp2; exact hp2
      have g1 : Grow H (upd H p1 (SetSO X.w p1 (gotS zs zs.length))) := Grow.new hp
      have g2 : Grow H (upd (upd H p1 (SetSO X.w p1 (gotS zs zs.length))) p2 (.lst ((srtS (gotS zs zs.length)).map V.str))) := g1.trans (Grow.new hp2)
      exact k _ _ g2 ⟨p2, .lst _, rfl, ne, rfl, ⟨_, upd_same, repL_strs _⟩⟩
    · cases ez
theorem pm_lenSet (hK : w.K = X.K) (hg : Gl X "len") (hm : X.mg "len" = none) (hg2 : Gl X "set") (hm2 : X.mg "set" = none) (ha : PMA X w W [e] mr) (hc : X.calm = true := by rfl) (he : starEach [e] X.env = (false, eval e X.env) :: starEach [] X.env := by rfl) (he2 : starEach [Expr.Call (.Name "set" p2) [e] [] pos2] X.env = (false, eval (.Call (.Name "set" p2) [e] [] pos2) X.env) :: starEach [] X.env := by rfl) :
    PM X w W (.Call (.Name "len" p) [.Call (.Name "set" p2) [e] [] pos2] [] pos) (mCall (one1 lenSetD) mr) := by
  obtain ⟨tr, pr, sr⟩ := ha
  refine ⟨_, pe_callB cr_lenS hg hm (by decide +kernel) (pa_cons (pe_callTy (cr_setS hc) hg2 hm2 (by decide +kernel) pr (by decide) (by decide) he) pa_nil he2) (by decide) (by decide) he2, ?_⟩
  refine sim_call (r := fun xs H Q => rSetS X.K X.w xs H fun v H1 => rLenS X.w [v] H1 Q) (fun O H xs z vs Q dm e rs k => ?_) sr
  obtain ⟨x, rfl, ez⟩ := one1_some e
  obtain ⟨v, rfl, hv⟩ := repl1 rs
  unfold lenSetD at ez
  cases q : textsD x with
  | none => rw [q] at ez; cases ez
  | some zs =>
    rw [q] at ez
    simp only [Option.bind_some] at ez
    split at ez
    · rename_i hl
      cases ez
      obtain ⟨a, rfl, hq⟩ := texts_rep hK q hv
      have gl := gotS_len zs zs.length
      refine ⟨a, zs, rfl, hq, by omega, fun p1 hp => ⟨p1, _, rfl, upd_same, by omega, k _ _ (Grow.new hp) (by simp only [GoAt, dI, Rep])⟩⟩
    · cases ez
end
end PM

/-! one sign in a text; upper; ''.join(..) -/
namespace PM
open PySem PySem.Spec PyProof.Rows L2
def inSg (neg : Bool) : D → D → Option Vl
  | .str ⟨⟨[c]⟩⟩, .str z => some (dB (if neg then !decide (c ∈ z.cps.toList) else decide (c ∈ z.cps.toList)))
  | _, _ => none
def upD : D → Option Vl
  | .str z => if z.length ≤ 100000 then some (dS (Txt.upper z)) else none
  | _ => none
def joinD (a : Str) (x : D) : Option Vl := (textsD x).bind fun ys => if (ys.map (·.length)).sum + ys.length * a.length ≤ 16777216 then some (dS (Txt.join a ys)) else none
section
variable {w : Wd} {W : WX} {X : Cx} {pos p apos : Pos} {a b e o : Expr} {ma mb m : ME}
theorem o2_inSg (neg : Bool) : Op2 w (fun x y H Q => ∃ (c : Nat) (z : Str), x = .str ⟨#[c]⟩ ∧ y = .str z ∧ Q (.bl (if neg then !decide (c ∈ z.cps.toList) else decide (c ∈ z.cps.toList))) H) (inSg neg) := fun O H x y z vx vy Q dm e hx hy k => by
  unfold inSg at e
  split at e
  · rename_i c z
    cases e
    simp only [Rep] at hx hy
    subst hx hy
    exact ⟨c, z, rfl, rfl, k.bl⟩
  · cases e
theorem pm_inSg (ha : PM X w W a ma) (hb : PM X w W b mb) (hm : behindInMarks .In b = false := by rfl) : PM X w W (.Compare a [.In] [b] pos) (mOp2 (inSg false) ma mb) := pm_cmp op_in_sign (o2_inSg false) ha hb hm
theorem pm_notInSg (ha : PM X w W a ma) (hb : PM X w W b mb) (hm : behindInMarks .NotIn b = false := by rfl) : PM X w W (.Compare a [.NotIn] [b] pos) (mOp2 (inSg true) ma mb) := pm_cmp op_notIn_sign (o2_inSg true) ha hb hm
theorem pmt_inSg (ha : PM X w W a ma) (hb : PM X w W b mb) (hm : behindInMarks .In b = false := by rfl) : PMT X w W (.Compare a [.In] [b] pos) (mTest (mOp2 (inSg false) ma mb)) := pmt_cmp op_in_sign (o2_inSg false) ha hb hm
theorem pmt_notInSg (ha : PM X w W a ma) (hb : PM X w W b mb) (hm : behindInMarks .NotIn b = false := by rfl) : PMT X w W (.Compare a [.NotIn] [b] pos) (mTest (mOp2 (inSg true) ma mb)) := pmt_cmp op_notIn_sign (o2_inSg true) ha hb hm
theorem pm_upper (ho : PM X w W o m) (hbase : attributeBase o "upper" X.env (eval o X.env) = eval o X.env := by rfl) (hline : (apos.endLine == pos.line) = true := by rfl) : PM X w W (.Call (.Attribute o "upper" apos) [] [] pos) (mOp1 upD m) := by
  obtain ⟨te, pe, se⟩ := ho
  refine ⟨_, pe_upper pe hbase hline, ?_⟩
  refine sim_op1 (r := fun x H Q => (∃ a, x = V.str a) ∧ ∃ a, x = .str a ∧ ([] : List V) = [] ∧ a.length ≤ 5592405 ∧ Q (.str (Txt.upper a)) H) (fun O H x z vx Q dm e hx k => ?_) se
  unfold upD at e
  split at e
  · rename_i y
    split at e
    · rename_i hl
      cases e
      simp only [Rep] at hx
      subst hx
      exact ⟨⟨y, rfl⟩, y, rfl, rfl, by omega, k _ _ (Grow.refl H) (by simp only [GoAt, dS, Rep])⟩
    · cases e
  · cases e
theorem pm_joinC {x : Str} {j : _} (hK : w.K = X.K) (he : PM X w W e m) (hs : starEach [e] X.env = [(false, eval e X.env)] := by rfl) (hbase : attributeBase (.Constant (.str x) j p) "join" X.env (eval (.Constant (.str x) j p) X.env) = eval (.Constant (.str x) j p) X.env := by rfl) (hline : (apos.endLine == pos.line) = true := by rfl) :
    PM X w W (.Call (.Attribute (.Constant (.str x) j p) "join" apos) [e] [] pos) (mOp1 (joinD x) m) := by
  obtain ⟨te, pe, se⟩ := he
  refine ⟨_, pe_join pe_str pe hs hbase hline, fun F O ρ σ H Q hw R hh => ?_⟩
  refine ⟨⟨x, rfl⟩, ?_⟩
  have key : Sim w W (tUn (fun y H Q => ∃ a p, ∃ ys : List Str, V.str x = .str a ∧ [y] = [V.ref p] ∧ (SqL X.K H p (ys.map V.str) ∨ SqT X.K H p (ys.map V.str)) ∧ (ys.map (·.length)).sum + ys.length * a.length ≤ 16777216 ∧ Q (.str (Txt.join a ys)) H) te) (mOp1 (joinD x) m) := by
    refine sim_op1 (fun O H y z vx Q dm e hx k => ?_) se
    unfold joinD at e
    cases q : textsD y with
    | none => rw [q] at e; cases e
    | some ys =>
      rw [q] at e
      simp only [Option.bind_some] at e
      split at e
      · rename_i hl
        cases e
        obtain ⟨p1, rfl, hq⟩ := texts_rep hK q hx
        exact ⟨x, p1, ys, rfl, rfl, hq, hl, k _ _ (Grow.refl H) (by simp only [GoAt, dS, Rep])⟩
      · cases e
  exact key F O ρ σ H Q hw R hh
end
end PM

/-! dicts with keys ints and texts: d[k], sorted(d), dict(pairs), list(d.items()) -/
namespace PM
open PySem PySem.Spec PyProof.Rows L2
def valD : List D → List D → Key → Option D
  | k' :: ks, d :: ds, k => if keyD k' = some k then some d else valD ks ds k
  | _, _, _ => none
theorem valD_rep {w : Wd} {O : Av} {H : Hp} {k : Key} {d : D} : ∀ {ks ds : List D} {kvs : List (Key × V)}, keysD ks (kvs.map (·.1)) → RepL w O H ds (kvs.map (·.2)) → valD ks ds k = some d → ∃ v, valV kvs k = some v ∧ Rep w O H d v
  | [], ds, kvs, hk, hd, h => by simp [valD] at h
  | k' :: ks, [], kvs, hk, hd, h => by simp [valD] at h
  | k' :: ks, d' :: ds, [], hk, hd, h => by
    simp only [keysD, List.map_nil] at hk
    obtain ⟨_, _, e, _⟩ := hk
    cases e
  | k' :: ks, d' :: ds, p :: kvs, hk, hd, h => by
    simp only [keysD, List.map_cons, List.cons.injEq] at hk
    obtain ⟨k1, ks1, ⟨rfl, rfl⟩, e1, hk⟩ := hk
    simp only [RepL, List.map_cons, List.cons.injEq] at hd
    obtain ⟨v, vs, ⟨rfl, rfl⟩, hv, hd⟩ := hd
    simp only [valD] at h
    split at h
    · rename_i e
      cases h
      rw [e1] at e
      exact ⟨p.2, valV_pos (Option.some.inj e), hv⟩
    · rename_i e
      have ne : ¬ p.1 = k := fun z => e (by rw [e1, z])
      obtain ⟨v, h1, h2⟩ := valD_rep hk hd h
      exact ⟨v, by rw [valV_neg ne]; exact h1, h2⟩
def dgetD : D → D → Option Vl
  | .dct ks ds, y => (keyD y).bind fun k => (valD ks ds k).map fun d => (d, false)
  | _, _ => none
theorem key_rep {w : Wd} {O : Av} {H : Hp} {y : D} {k : Key} {v : V} (h : keyD y = some k) (r : Rep w O H y v) : v = kV k := by
  cases y <;> simp only [keyD] at h <;> first | (cases h; simp only [Rep] at r; exact r) | cases h
section
variable {w : Wd} {W : WX} {X : Cx} {pos p p2 apos cpos : Pos} {a b e o i : Expr} {ma mb m : ME} {mr : MA}
theorem o2_dget : Op2 w (fun x y H Q => ∃ a v, x = V.ref a ∧ DGet H a y (some v) ∧ Q v H) dgetD := fun O H x y z vx vy Q dm e hx hy k => by
  unfold dgetD at e
  split at e
  · rename_i ks ds
    cases q : keyD y with
    | none => rw [q] at e; cases e
    | some kk =>
      rw [q] at e
      simp only [Option.bind_some] at e
      cases q2 : valD ks ds kk with
      | none => rw [q2] at e; cases e
      | some d =>
        rw [q2] at e
        cases e
        simp only [Rep] at hx
        obtain ⟨a, kvs, rfl, h1, h2, h3⟩ := hx
        obtain ⟨v, h4, h5⟩ := valD_rep h2 h3 q2
        have ey := key_rep q hy
        subst ey
        exact ⟨a, v, rfl, .inl ⟨kvs, kk, h1.imp (·.2) (fun ⟨o, q⟩ => ⟨o, q.2⟩), rfl, h4.symm⟩, k _ _ (Grow.refl H) h5⟩
  · cases e
theorem pm_dget {n : Nat} (hr : Room n X.A) (ho : PM X w W o ma) (hi : PM X w W i mb) (hs : NoSl i) : PM X w W (.Subscript o i pos) (mOp2 dgetD ma mb) := by
  obtain ⟨ta, pa, sa⟩ := ho
  obtain ⟨tb, pb, sb⟩ := hi
  exact ⟨_, pe_dget (by have := hr.units; omega) pa pb hs, sim_op2 o2_dget sa sb⟩
theorem keysD_strs : ∀ {ks : List D} {kk : List Key} {zs : List Str}, keysD ks kk → strsD ks = some zs → kk = zs.map Sum.inr
  | [], kk, zs, h, hs => by
    cases hs
    exact h
  | .str x :: ks, kk, zs, h, hs => by
    simp only [strsD] at hs
    cases q : strsD ks with
    | none => rw [q] at hs; cases hs
    | some ys =>
      rw [q] at hs
      cases hs
      simp only [keysD, keyD] at h
      obtain ⟨k, ks', rfl, e, h⟩ := h
      cases e
      rw [keysD_strs h q]
      rfl
def sortDD : D → Option Vl
  | .dct ks _ => (strsD ks).bind fun zs => if zs.length < 64 then some (.lst ((srtS zs).map .str), true) else none
  | _ => none
theorem pm_sortDct (hg : Gl X "sorted") (hm : X.mg "sorted" = none) (ha : PMA X w W [e] mr) (hc : X.calm = true := by rfl) (he : starEach [e] X.env = (false, eval e X.env) :: starEach [] X.env := by rfl) : PM X w W (.Call (.Name "sorted" p) [e] [] pos) (mCall (one1 sortDD) mr) :=
  pm_callB (call_sortedD hc) (fun O H xs z vs Q dm e rs k => by
    obtain ⟨x, rfl, ez⟩ := one1_some e
    clear e
    obtain ⟨v, rfl, hv⟩ := repl1 rs
    unfold sortDD at ez
    split at ez
    · rename_i ks ds
      cases q : strsD ks with
      | none => rw [q] at ez; cases ez
      | some zs =>
        rw [q] at ez
        simp only [Option.bind_some] at ez
        split at ez
        · rename_i hl
          cases ez
          simp only [Rep] at hv
          obtain ⟨a, kvs, rfl, h1, h2, h3⟩ := hv
          refine ⟨a, kvs, zs, rfl, h1.imp (·.2) (fun ⟨o, q⟩ => ⟨o, q.2⟩), keysD_strs h2 q, hl, fun ys p1 pm so hp => ?_⟩
          rw [eq_srtS pm so]
          exact k.newL (repL_strs _) hp
        · cases ez
    · cases ez) hg hm (by decide +kernel) ha (by decide) (by decide) he
def zipT : List D → List D → List D
  | k :: ks, d :: ds => .tup [k, d] :: zipT ks ds
  | _, _ => []
def itemsD : D → Option Vl
  | .dct ks ds => some (.lst (zipT ks ds), true)
  | _ => none
theorem key_is {w : Wd} {O : Av} {H : Hp} {y : D} {k : Key} (h : keyD y = some k) : Rep w O H y (kV k) := by
  cases y <;> simp only [keyD] at h <;> first | (cases h; simp only [Rep]; rfl) | cases h
theorem zip_rep {w : Wd} {O : Av} {H : Hp} : ∀ {ks ds : List D} {kvs : List (Key × V)} {ts : List Addr}, keysD ks (kvs.map (·.1)) → RepL w O H ds (kvs.map (·.2)) → Paired (fun (t : Addr) (q : Key × V) => H t = some (.tup [kV q.1, q.2])) ts kvs → (∀ t ∈ ts, ¬ O t) → RepL w O H (zipT ks ds) (ts.map V.ref)
  | [], ds, [], ts, hk, hd, hp, ho => by
    cases hp
    simp [zipT, RepL]
  | [], ds, p :: kvs, ts, hk, hd, hp, ho => by
    simp only [keysD, List.map_cons] at hk
    cases hk
  | k' :: ks, ds, [], ts, hk, hd, hp, ho => by
    simp only [keysD, List.map_nil] at hk
    obtain ⟨_, _, e, _⟩ := hk
    cases e
  | k' :: ks, [], p :: kvs, ts, hk, hd, hp, ho => by
    simp only [RepL, List.map_cons] at hd
    cases hd
  | k' :: ks, d' :: ds, p :: kvs, ts, hk, hd, hp, ho => by
    simp only [keysD, List.map_cons, List.cons.injEq] at hk
    obtain ⟨k1, ks1, ⟨rfl, rfl⟩, e1, hk⟩ := hk
    simp only [RepL, List.map_cons, List.cons.injEq] at hd
    obtain ⟨v, vs, ⟨rfl, rfl⟩, hv, hd⟩ := hd
    cases hp with
    | cons h1 h2 =>
      rename_i t ts
      simp only [zipT, List.map_cons, RepL, Rep]
      exact ⟨_, _, rfl, ⟨t, _, rfl, .inl ⟨ho t List.mem_cons_self, h1⟩, _, _, rfl, key_is e1, _, _, rfl, hv, rfl⟩, zip_rep hk hd h2 fun x hx => ho x (List.mem_cons_of_mem _ hx)⟩
/-- pairs apart: keys, values -/
def pairsD : List D → Option (List D × List D × List Key)
  | [] => some ([], [], [])
  | .tup [k, d] :: r => (keyD k).bind fun kk => (pairsD r).bind fun (q : List D × List D × List Key) => if q.2.2.any (fun z => decide (z = kk)) = true then none else some (k :: q.1, d :: q.2.1, kk :: q.2.2)
  | _ :: _ => none
def dictPD : D → Option Vl
  | .lst ps => (pairsD ps).map fun q => (.dct q.1 q.2.1, true)
  | _ => none
theorem pairs_rep {w : Wd} {O : Av} {H : Hp} : ∀ {ps : List D} {vs : List V} {q : List D × List D × List Key}, pairsD ps = some q → RepL w O H ps vs →
    ∃ (as : List Addr) (kvs : List (Key × V)), vs = as.map V.ref ∧ Paired (fun p kv => SqT w.K H p [kV kv.1, kv.2]) as kvs ∧ keysD q.1 (kvs.map (·.1)) ∧ RepL w O H q.2.1 (kvs.map (·.2)) ∧ kvs.map (·.1) = q.2.2 ∧ q.2.2.Nodup
  | [], vs, q, h, r => by
    cases h
    simp only [RepL] at r
    subst r
    exact ⟨[], [], rfl, .nil, rfl, by simp [RepL], rfl, List.nodup_nil⟩
  | .tup [k, d] :: ps, vs, q, h, r => by
    simp only [pairsD] at h
    cases q1 : keyD k with
    | none => rw [q1] at h; cases h
    | some kk =>
      rw [q1] at h
      simp only [Option.bind_some] at h
      cases q2 : pairsD ps with
      | none => rw [q2] at h; cases h
      | some q' =>
        rw [q2] at h
        simp only [Option.bind_some] at h
        split at h
        · cases h
        · rename_i hn0
          have hn : kk ∉ q'.2.2 := fun z => hn0 (List.any_eq_true.mpr ⟨kk, z, decide_eq_true rfl⟩)
          cases h
          simp only [RepL, Rep] at r
          obtain ⟨v, vs', rfl, ⟨a, us, rfl, h1, u1, us1, rfl, hk, u2, us2, rfl, hd, rfl⟩, r⟩ := r
          have ek := key_rep q1 hk
          subst ek
          obtain ⟨as, kvs, rfl, p1, p2, p3, p4, p5⟩ := pairs_rep q2 r
          refine ⟨a :: as, (kk, u2) :: kvs, rfl, .cons (sq_of_rep h1) p1, ?_, ?_, by simp [p4], List.nodup_cons.mpr ⟨hn, p5⟩⟩
          · simp only [keysD, List.map_cons]
            exact ⟨kk, _, rfl, q1, p2⟩
          · simp only [RepL, List.map_cons]
            exact ⟨u2, _, rfl, hd, p3⟩
theorem putK_new {kvs : List (Key × V)} {k : Key} {v : V} (h : k ∉ kvs.map (·.1)) : putK kvs k v = kvs ++ [(k, v)] := by
  unfold putK
  rw [if_neg]
  intro z
  rw [List.any_eq_true] at z
  obtain ⟨p, hp, e⟩ := z
  exact h (List.mem_map.mpr ⟨p, hp, of_decide_eq_true e⟩)
theorem mergeK_new : ∀ (more kvs : List (Key × V)), ((kvs ++ more).map (·.1)).Nodup → mergeK kvs more = kvs ++ more
  | [], kvs, _ => by simp [mergeK]
  | p :: more, kvs, h => by
    have e : mergeK kvs (p :: more) = mergeK (putK kvs p.1 p.2) more := rfl
    have hn : p.1 ∉ kvs.map (·.1) := by
      rw [List.map_append, List.map_cons, List.nodup_append] at h
      exact fun z => h.2.2 _ z p.1 List.mem_cons_self rfl
    rw [e, putK_new hn, mergeK_new more (kvs ++ [(p.1, p.2)]) (by simpa using h)]
    simp
theorem pm_dictP (hK : w.K = X.K) (hg : Gl X "dict") (hm : X.mg "dict" = none) (ha : PMA X w W [e] mr) (hc : X.calm = true := by rfl) (he : starEach [e] X.env = (false, eval e X.env) :: starEach [] X.env := by rfl) : PM X w W (.Call (.Name "dict" p) [e] [] pos) (mCall (one1 dictPD) mr) :=
  pm_callTy (call_dictP hc) (fun O H xs z vs Q dm e rs k => by
    obtain ⟨x, rfl, ez⟩ := one1_some e
    clear e
    obtain ⟨v, rfl, hv⟩ := repl1 rs
    unfold dictPD at ez
    split at ez
    · rename_i ps
      cases q : pairsD ps with
      | none => rw [q] at ez; cases ez
      | some qq =>
        rw [q] at ez
        cases ez
        simp only [Rep] at hv
        obtain ⟨a, us, rfl, h1, h2⟩ := hv
        obtain ⟨as, kvs, rfl, p1, p2, p3, p4, p5⟩ := pairs_rep q h2
        refine ⟨a, as, kvs, rfl, hK ▸ sl_of_rep h1, hK ▸ p1, fun p1 hp => ?_⟩
        have em : mergeK [] kvs = kvs := by
          have := mergeK_new kvs [] (by rw [List.nil_append, p4]; exact p5)
          simpa using this
        rw [em]
        exact k _ _ (Grow.new hp) ⟨p1, .dct _ _, rfl, hp, rfl, ⟨kvs, upd_same, p2, RepL.step (ins_step (Grow.new hp) hp) _ _ p3⟩⟩
    · cases ez) hg hm (by decide +kernel) ha (by decide) (by decide) he
end
end PM

/-! raise C('..'), an error class without own __init__ -/
namespace PM
open PySem PySem.Spec PyProof.Rows L2
def mRaise0 (c : Nat) : MS := fun ρ => .exc (.own c []) ρ
section
variable {w : Wd} {W : WX} {X : Cx} {c j : Nat} {x m : Str} {p p2 pos pos' : Pos} {B newId initId : String} {bmB : List Value}
theorem pms_raise0 (tk : Takes X W) (F : ExcBaseFacts B newId initId bmB) (q : PySem.W.excIn X.K (w.cl c) bmB newId = true) (kC : PySem.W.keepIn X.K (.ref (w.cl c)) = true) (r : Raises X (.ref (w.cl c))) (hg : Gl X x) (gC : X.mg x = some (.ref (w.cl c))) (hc : X.calm = true := by rfl) (hdb : (x == ("__debug__" : Str)) = false := by decide) :
    PMS X w W (.Raise (some (.Call (.Name x p) [.Constant (.str m) j p2] [] pos)) none pos') (mRaise0 c) := by
  refine ⟨_, ps_raise hc tk (pmk_own F q gC kC r hg hdb), fun F O ρ σ H E hw R hh => ?_⟩
  subst hw
  exact hh O σ H _ _ (Step.refl _ _) R ⟨rfl, rfl⟩
end
end PM

/-! try: return f(x, y) / except C: return 'z' -/
namespace PM
open PySem PySem.Spec PyProof.Rows L2
def mTry2 (fn : Fn) (i0 i1 c : Nat) (z : Str) : MS := fun ρ => match ρ[i0]?, ρ[i1]? with
  | some (.val x), some (.val y) => (match fn none [x, y] with
    | .ret (r, false) none => .ok (.rt (r, false)) ρ
    | .exc (.own k []) none => if k = c then .ok (.rt (.str z, false)) ρ else .stuck
    | _ => .stuck)
  | _, _ => .stuck
theorem takes_w0 {X : Cx} : Takes X W0 := fun _ _ ⟨_, _, _, _, _, _, _, _, _, _, _, _, _, _, _, _, w⟩ => w.elim
section
variable {w : Wd} {X : Cx} {c i0 i1 k : Nat} {z : Str} {fn : Fn} {f x y x1 : Str} {q0 q1 q2 q3 q4 q5 r4 r5 pos pos2 : Pos} {j1 : Nat}
theorem pms_try2 (hK : w.K = X.K) (Fn : DefX X.prog X.w X.K X.mg X.base w f 2 k fn) (hr : Room k X.A) (hg : Gl X f) (me : PySem.W.exmOne w.K (.ref (w.cl c)) (.ref (w.cl c)) = some true) (N1 : Names X x1 (.ref (w.cl c))) (e0 : X.N[i0]? = some x) (e1 : X.N[i1]? = some y) (es : X.stack = X.env :: X.outer := by rfl) (ef : X.env.frame = some X.env.locals := by rfl)
    (hv : Vis X.env.scope x := by first | exact Or.inl rfl | exact Or.inr (Or.inl rfl) | exact Or.inr (Or.inr rfl)) (hv2 : Vis X.env.scope y := by first | exact Or.inl rfl | exact Or.inr (Or.inl rfl) | exact Or.inr (Or.inr rfl))
    (hd : (f == ("__debug__" : Str)) = false := by decide) (hd2 : (x == ("__debug__" : Str)) = false := by decide) (hd3 : (x == ("__classdict__" : Str)) = false := by decide) (hd4 : (y == ("__debug__" : Str)) = false := by decide) (hd5 : (y == ("__classdict__" : Str)) = false := by decide)
    (hs : starEach [Expr.Name x q1, .Name y q2] X.env = (false, eval (.Name x q1) X.env) :: starEach [.Name y q2] X.env := by rfl) (hpl : (backTo q3 (starEach [Expr.Name y q2] X.env)).any (·.1) = false := by rfl) :
    PMS X w W0 (.Try [.Return (some (.Call (.Name f q0) [.Name x q1, .Name y q2] [] q3)) q4] [.ExceptHandler (some (.Name x1 r4)) none [.Return (some (.Constant (.str z) j1 r5)) q5] pos2] [] [] pos) (mTry2 fn i0 i1 c z) := by
  obtain ⟨a, fd, ps, hl, FF, hm, hk, hb⟩ := Fn
  refine ⟨_, ps_try_only (tb := fun W => tRet (tCall (spOf w 2 fn) [] (fun cls d H => ∀ σ : L2.St, σ.length = X.N.length → W cls d σ H) (tCons (tVar i0) (tCons (tVar i1) tNil)))) (ts := fun _ _ _ => tRet (tC (.str z))) es ef N1 takes_w0 (fun W pn xe tk po => ?_) (fun a oe cls d pn hz hf => ?_), fun F O ρ σ H E hw R hh => ?_⟩
  · have tk' : Passes (L2.CX X.prog X.w) (X.tr pn xe) (fun cls d H => ∀ σ : L2.St, σ.length = X.N.length → W cls d σ H) := fun pins σ H s er s' I cx => tk er s' (XE.of_call I (fun cls d H' z => z σ I.len) cx)
    have pa : PA (X.tr pn xe) [.Name x q1, .Name y q2] (tCons (tVar i0) (tCons (tVar i1) tNil)) := pa_cons (pe_var e0 hv hd2 hd3) (pa_cons (pe_var e1 hv2 hd4 hd5) pa_nil)
    exact pss_one (ps_ret (pe_call (X := X.tr pn xe) FF hr hg hm hk hb .nil tk' pa hd hs hpl))
  · exact pss_one (ps_ret pe_str)
  · subst hw
    unfold mTry2 at hh
    split at hh
    · rename_i dx dy ex ey
      obtain ⟨v, ev, rv⟩ := R.slot i0 _ ex
      obtain ⟨u, eu, ru⟩ := R.slot i1 _ ey
      refine ⟨v, ev, u, eu, ?_⟩
      refine ⟨O, none, [dx, dy], R.dom, rfl, ?_, ?_⟩
      · show RepL F.w O H [dx, dy] [v, u]
        simp only [RepL]
        exact ⟨_, _, rfl, rv, _, _, rfl, ru, rfl⟩
      · cases q : fn none [dx, dy] with
        | stuck => rw [q] at hh; exact hh
        | ret r om =>
          rw [q] at hh
          obtain ⟨y', b⟩ := r
          cases b with
          | true => exact hh.elim
          | false =>
            cases om with
            | some _ => exact hh.elim
            | none => exact ⟨rfl, fun H' v' sy rf => hh O σ H' v' (Grow.step fun a o e => sy.kept a o (fun q => by cases q.1) e) (R.grow fun a o e => sy.kept a o (fun q => by cases q.1) e) rf.1⟩
        | exc xc om =>
          rw [q] at hh
          cases xc with
          | ty nn => exact hh.elim
          | own kk fs =>
            cases fs with
            | cons _ _ => exact hh.elim
            | nil =>
              cases om with
              | some _ => exact hh.elim
              | none =>
                refine ⟨rfl, fun H' cls d sy _ xa σ' hl => ?_⟩
                have gr : Grow H H' := fun a o e => sy.kept a o (fun q => by cases q.1) e
                obtain ⟨ecl, ed⟩ := xa
                subst ecl
                have h2 : HoldS F W0 O H E (if kk = c then .ok (.rt (.str z, false)) ρ else .stuck) := hh
                rw [← hK]
                clear hh q
                split at h2
                · rename_i hc
                  subst hc
                  exact ⟨true, me, (fun _ a' _ => h2 O σ H' (.str z) gr.step (R.grow gr) (by show Rep F.w O H' (.str z) (.str z); simp only [Rep])), (fun z => by cases z)⟩
                · exact h2.elim
    · exact hh.elim
end
end PM

/-! d[k] = v, d a dict of one's own -/
namespace PM
open PySem PySem.Spec PyProof.Rows L2
def hasK (ks : List D) (kk : Key) : Bool := ks.any fun k => decide (keyD k = some kk)
def replD (kk : Key) (d : D) : List D → List D → List D
  | k :: ks, e :: ds => (if keyD k = some kk then d else e) :: replD kk d ks ds
  | _, _ => []
def putKs (ks : List D) (kk : Key) (k : D) : List D := if hasK ks kk = true then ks else ks ++ [k]
def putDs (ks ds : List D) (kk : Key) (d : D) : List D := if hasK ks kk = true then replD kk d ks ds else ds ++ [d]
theorem keysD_has {kk : Key} : ∀ {ks : List D} {kvs : List (Key × V)}, keysD ks (kvs.map (·.1)) → hasK ks kk = kvs.any fun kv => decide (kv.1 = kk)
  | [], kvs, h => by
    have e : kvs.map (·.1) = [] := h
    have e : kvs = [] := List.map_eq_nil_iff.mp e
    subst e
    rfl
  | k :: ks, [], h => by
    simp only [keysD, List.map_nil] at h
    obtain ⟨_, _, e, _⟩ := h
    cases e
  | k :: ks, p :: kvs, h => by
    simp only [keysD, List.map_cons, List.cons.injEq] at h
    obtain ⟨k1, ks1, ⟨rfl, rfl⟩, e1, h⟩ := h
    have ih := keysD_has (kk := kk) h
    unfold hasK at ih ⊢
    simp only [List.any_cons, ih, e1, Option.some.injEq]
theorem keysD_app : ∀ {ks : List D} {kk : List Key} {k : D} {q : Key}, keysD ks kk → keyD k = some q → keysD (ks ++ [k]) (kk ++ [q])
  | [], kk, k, q, h, e => by
    have h : kk = [] := h
    subst h
    exact ⟨q, [], rfl, e, rfl⟩
  | k' :: ks, kk, k, q, h, e => by
    obtain ⟨k1, ks1, rfl, e1, h⟩ := h
    exact ⟨k1, ks1 ++ [q], rfl, e1, keysD_app h e⟩
theorem repl_rep {w : Wd} {O : Av} {H : Hp} {kk : Key} {d : D} {v : V} (hd : Rep w O H d v) : ∀ {ks ds : List D} {kvs : List (Key × V)}, keysD ks (kvs.map (·.1)) → RepL w O H ds (kvs.map (·.2)) → RepL w O H (replD kk d ks ds) ((kvs.map fun kv => if kv.1 = kk then (kv.1, v) else kv).map (·.2))
  | [], ds, kvs, h, r => by
    have e : kvs.map (·.1) = [] := h
    have e : kvs = [] := List.map_eq_nil_iff.mp e
    subst e
    simp [replD, RepL]
  | k :: ks, ds, [], h, r => by
    simp only [keysD, List.map_nil] at h
    obtain ⟨_, _, e, _⟩ := h
    cases e
  | k :: ks, [], p :: kvs, h, r => by
    simp only [RepL, List.map_cons] at r
    cases r
  | k :: ks, e :: ds, p :: kvs, h, r => by
    simp only [keysD, List.map_cons, List.cons.injEq] at h
    obtain ⟨k1, ks1, ⟨rfl, rfl⟩, e1, h⟩ := h
    simp only [RepL, List.map_cons, List.cons.injEq] at r
    obtain ⟨u, us, ⟨rfl, rfl⟩, hu, r⟩ := r
    simp only [replD, List.map_cons, RepL]
    refine ⟨_, _, rfl, ?_, repl_rep hd h r⟩
    by_cases z : p.1 = kk
    · rw [if_pos z, if_pos (by rw [e1, z])]
      exact hd
    · rw [if_neg z, if_neg (fun q => z (Option.some.inj (e1.symm.trans q)))]
      exact hu
theorem put_rep {w : Wd} {O : Av} {H : Hp} {ks ds : List D} {kvs : List (Key × V)} {kk : Key} {k d : D} {v : V} (h : keysD ks (kvs.map (·.1))) (r : RepL w O H ds (kvs.map (·.2))) (hk : keyD k = some kk) (hd : Rep w O H d v) :
    keysD (putKs ks kk k) ((putK kvs kk v).map (·.1)) ∧ RepL w O H (putDs ks ds kk d) ((putK kvs kk v).map (·.2)) := by
  have e := keysD_has (kk := kk) h
  unfold putKs putDs putK
  rw [e]
  split
  · refine ⟨?_, repl_rep hd h r⟩
    have : (kvs.map fun kv => if kv.1 = kk then (kv.1, v) else kv).map (·.1) = kvs.map (·.1) := by
      rw [List.map_map]
      refine List.map_congr_left fun p _ => ?_
      simp only [Function.comp]
      split <;> rfl
    rw [this]
    exact h
  · rw [List.map_append, List.map_append]
    refine ⟨keysD_app h hk, ?_⟩
    exact r.append (by simp only [List.map_cons, List.map_nil, RepL]; exact ⟨v, [], rfl, hd, rfl⟩)
def mSetKey (i : Nat) (mk mv : ME) : MS := fun ρ => (mv ρ).bind fun y ρ1 => match muOf i ρ1 with
  | none => .stuck
  | some _ => (mk ρ1).bind fun k ρ2 => match muOf i ρ2, keyD k.1 with
    | some (s, .dct ks ds), some kk => if ks.length < sizeLine then .ok .nx (ρ2.set i (s.put (.dct (putKs ks kk k.1) (putDs ks ds kk y.1)))) else .stuck
    | _, _ => .stuck
theorem keysD_len : ∀ {ks : List D} {kk : List Key}, keysD ks kk → kk.length = ks.length
  | [], kk, h => by
    have h : kk = [] := h
    subst h
    rfl
  | k :: ks, kk, h => by
    obtain ⟨k1, ks1, rfl, e1, h⟩ := h
    simp [keysD_len h]
section
variable {w : Wd} {W : WX} {X : Cx} {x : Str} {p pos : Pos}
theorem pms_setKey (i : Nat) {k v : Expr} {mk mv : ME} {spos : Pos} {n : Nat} (hr : Room n X.A) (hv : PM X w W v mv) (hk : PM X w W k mk) (hN : X.N[i]? = some x := by rfl) (hvi : Vis X.env.scope x := by first | exact Or.inl rfl | exact Or.inr (Or.inl rfl) | exact Or.inr (Or.inr rfl)) (hd : (x == ("__debug__" : Str)) = false := by decide)
    (hcd : (x == ("__classdict__" : Str)) = false := by decide) (hs : swapsWith v (some (.Subscript (.Name x p) k pos)) spos.line X.env = pure false := by rfl) : PMS X w W (.Assign [.Subscript (.Name x p) k pos] v spos) (mSetKey i mk mv) := by
  obtain ⟨tv, pv', sv⟩ := hv
  obtain ⟨tk, pk, sk⟩ := hk
  refine ⟨_, ps_dput (by have := hr.units; omega) (pv i hN hvi hd hcd) pk pv' hs, fun F O ρ σ H E hw R hh => ?_⟩
  refine sv.bindS hw R hh fun y u ρ1 O1 H1 st1 R1 rv h2 => ?_
  obtain ⟨O2, s2, R2, r2, s3⟩ := VlAt.release st1 R1 R.doh rv
  have h2 := h2.later s3
  split at h2
  · exact h2.elim
  · rename_i sm q0
    obtain ⟨e0, g0⟩ := muOf_some (s := sm.1) (m := sm.2) q0
    obtain ⟨a, ea, oa, _⟩ := R2.muAt e0 g0
    refine ⟨.ref a, ea, ?_⟩
    refine sk.bindS hw R2 h2 fun kk uk ρ2 O3 H3 st3 R3 rk h3 => ?_
    obtain ⟨O4, s4, R4, r4, s5⟩ := VlAt.release st3 R3 R2.doh rk
    have h3 := h3.later s5
    split at h3
    · rename_i s ks ds kq q1 ek
      obtain ⟨e1, g1⟩ := muOf_some q1
      obtain ⟨a', ea', oa', kvs, hvs, hks, hr2⟩ := R4.muAt e1 g1
      rw [ea] at ea'
      cases ea'
      split at h3
      · rename_i hlen
        have eu := key_rep ek r4
        subst eu
        have hl := keysD_len hks
        rw [List.length_map] at hl
        obtain ⟨pk1, pk2⟩ := put_rep hks hr2 ek (Rep.step s4 _ _ r2)
        refine ⟨a, _, rfl, .inl ⟨kvs, kq, hvs, rfl, by rw [hl]; exact hlen, rfl⟩, ?_⟩
        have st := mut_step (o' := HO.dK (putK kvs kq u)) (H := H3) oa'
        exact h3 O4 σ _ st (R4.mut e1 g1 ea oa' ⟨_, upd_same, pk1, RepL.step st _ _ pk2⟩)
      · exact h3.elim
    · exact h3.elim
end
end PM

/-! one's own list or dict is given away; x, y = e, []; x, y = e, {} -/
namespace PM
open PySem PySem.Spec PyProof.Rows L2
def dataOf : Mu → Option D
  | .lst ds => some (.lst ds)
  | .dct ks ds => some (.dct ks ds)
  | .ins _ _ => none
/-- x, x one's own so far: data from then on -/
def mGive (i : Nat) : ME := fun ρ => match ρ[i]? with
  | some (.own m) => (match dataOf m with
    | some d => .ok (d, false) (ρ.set i (.val d))
    | none => .stuck)
  | _ => .stuck
theorem set_same {α : Type} {l : List α} {i : Nat} {x : α} (h : l[i]? = some x) : l.set i x = l := by
  apply List.ext_getElem?
  intro j
  by_cases z : i = j
  · subst z
    rw [List.getElem?_set_self', h]
    rfl
  · rw [List.getElem?_set_ne z]
theorem sim_give {w : Wd} {W : WX} (i : Nat) : Sim w W (tVar i) (mGive i) := fun F O ρ σ H Q hw R hh => by
  subst hw
  unfold mGive at hh
  split at hh
  · rename_i m e
    split at hh
    · rename_i d ed
      obtain ⟨a, e1, e2, e3, e4⟩ := R.slot i _ e
      have is : m.is d := by
        cases m <;> simp only [dataOf] at ed <;> cases ed <;> rfl
      have lt : i < ρ.length := by
        rcases Nat.lt_or_ge i ρ.length with y | y
        · exact y
        · rw [List.getElem?_eq_none y] at e
          cases e
      have ap : Apart (ρ.set i .non) σ a := fun j s q hm z => by
        by_cases y : i = j
        · subst y
          rw [List.getElem?_set_self lt] at q
          cases q
          cases hm
        · rw [List.getElem?_set_ne y] at q
          exact y (R.dist i j _ _ e q rfl hm (e1.trans z.symm))
      have hb : ¬ F.B a := fun q => R.bh a q e3
      have R1 := (R.setN (i := i)).release ap hb
      have r1 : Rep F.w (off O a) H d (.ref a) := (e4.step off_step rfl).rep (fun q => q.2 rfl) is
      have R2 := R1.setV (i := i) r1 (by rw [List.getElem?_set_self lt]; rfl)
      rw [List.set_set, set_same e1] at R2
      exact ⟨_, e1, hh (off O a) H _ off_step R2 r1⟩
    · exact hh.elim
  · exact hh.elim
def mPar0 (i j : Nat) (mu : Mu) (m : ME) : MS := fun ρ => (m ρ).bind fun x ρ1 => match setO i x ρ1 with
  | none => .stuck
  | some ρ2 => if notIo (ρ2[j]?) = true then .ok .nx (ρ2.set j (.own mu)) else .stuck
section
variable {w : Wd} {W : WX} {X : Cx} {x y : Str} {p pos : Pos} {a : Expr} {m : ME}
theorem pm_give (i : Nat) (hN : X.N[i]? = some x := by rfl) (hv : Vis X.env.scope x := by first | exact Or.inl rfl | exact Or.inr (Or.inl rfl) | exact Or.inr (Or.inr rfl)) (hd : (x == ("__debug__" : Str)) = false := by decide)
    (hcd : (x == ("__classdict__" : Str)) = false := by decide) : PM X w W (.Name x pos) (mGive i) := ⟨_, pe_var hN hv hd hcd, sim_give i⟩
theorem par_end {F : Fr} {O : Av} {ρ : En} {σ : L2.St} {H : Hp} {E : Ends} {i j : Nat} {mu : Mu} {o : HO} {x : Vl} {v : V} {ρ1 : En} {O1 : Av} {H1 : Hp} {c : Addr} (R : Rel F O ρ σ H) (st : Step O H O1 H1) (R1 : Rel F O1 ρ1 σ H1) (rv : VlAt F.w σ H ρ1 O1 H1 v x) (hc : H1 c = none) (hm : ∀ O', MuAt F.w O' (upd H1 c o) c mu)
    (h : HoldS F W O1 H1 E (match setO i x ρ1 with | none => Rs.stuck | some ρ2 => if notIo (ρ2[j]?) = true then .ok .nx (ρ2.set j (.own mu)) else .stuck)) : E.nx ((σ.set i (some v)).set j (some (.ref c))) (upd H1 c o) := by
  cases q : setO i x ρ1 with
  | none => rw [q] at h; exact h.elim
  | some ρ2 =>
    rw [q] at h
    have h : HoldS F W O1 H1 E (if notIo (ρ2[j]?) = true then .ok .nx (ρ2.set j (.own mu)) else .stuck) := h
    split at h
    · rename_i nj
      have R3 := setO_rel R R1 rv q
      have g := Grow.new (o := o) hc
      have R4 := R3.guard g hc (by rw [upd_same]; simp)
      have R5 := R4.setO (i := j) (hm _) (.inr rfl) (R3.freshE hc) (R3.apart hc) nj
      exact h _ _ _ (ins_step g hc) R5
    · exact h.elim
theorem pms_parL {i j : Nat} {px py pt p1 : Pos} {kt k2 pt2} (hc : X.calm = true) (hN : X.N.Nodup) (hi : X.N[i]? = some x) (hj : X.N[j]? = some y) (hij : i ≠ j) (hx : X.env.scope.names.lookup x = some .local) (hy : X.env.scope.names.lookup y = some .local) (ha : PM X w W a m)
    (hw : swappedStores [.Tuple [.Name x px, .Name y py] kt pt] (.Tuple [a, .List [] p1] k2 pt2) X.env = pure (some [x, y])) (hs : swapsWithSole [.Tuple [.Name x px, .Name y py] kt pt] (.Tuple [a, .List [] p1] k2 pt2) pos.line X.env = pure false := by rfl)
    (he : starEach [a, .List [] p1] X.env = (false, eval a X.env) :: starEach [.List [] p1] X.env := by rfl) :
    PMS X w W (.Assign [.Tuple [.Name x px, .Name y py] kt pt] (.Tuple [a, .List [] p1] k2 pt2) pos) (mPar0 i j (.lst []) m) := by
  obtain ⟨t, pa, sa⟩ := ha
  refine ⟨_, ps_par hc hN hi hj hij hx hy (pa_cons pa (pa_cons (pe_lst pa_nil) pa_nil) he) hw hs, fun F O ρ σ H E hw R hh => ?_⟩
  subst hw
  refine sa.bindS rfl R hh fun z v ρ1 O1 H1 st1 R1 rv h1 => ?_
  refine ⟨by show 0 ≤ sizeLine; exact Nat.zero_le _, fun c f => ⟨_, _, rfl, ?_⟩⟩
  exact par_end (mu := .lst []) R st1 R1 rv f (fun O' => ⟨[], upd_same, by simp only [RepL]⟩) h1
theorem pms_parD {i j : Nat} {px py pt p1 : Pos} {kt k2 pt2} (hc : X.calm = true) (hN : X.N.Nodup) (hi : X.N[i]? = some x) (hj : X.N[j]? = some y) (hij : i ≠ j) (hx : X.env.scope.names.lookup x = some .local) (hy : X.env.scope.names.lookup y = some .local) (ha : PM X w W a m)
    (hw : swappedStores [.Tuple [.Name x px, .Name y py] kt pt] (.Tuple [a, .Dict [] [] p1] k2 pt2) X.env = pure (some [x, y])) (hs : swapsWithSole [.Tuple [.Name x px, .Name y py] kt pt] (.Tuple [a, .Dict [] [] p1] k2 pt2) pos.line X.env = pure false := by rfl)
    (he : starEach [a, .Dict [] [] p1] X.env = (false, eval a X.env) :: starEach [.Dict [] [] p1] X.env := by rfl) :
    PMS X w W (.Assign [.Tuple [.Name x px, .Name y py] kt pt] (.Tuple [a, .Dict [] [] p1] k2 pt2) pos) (mPar0 i j (.dct [] []) m) := by
  obtain ⟨t, pa, sa⟩ := ha
  refine ⟨_, ps_par hc hN hi hj hij hx hy (pa_cons pa (pa_cons pe_dnewK pa_nil) he) hw hs, fun F O ρ σ H E hw R hh => ?_⟩
  subst hw
  refine sa.bindS rfl R hh fun z v ρ1 O1 H1 st1 R1 rv h1 => ?_
  refine fun c f => ⟨_, _, rfl, ?_⟩
  exact par_end (mu := .dct [] []) R st1 R1 rv f (fun O' => ⟨[], upd_same, rfl, by simp only [List.map_nil, RepL]⟩) h1
end
end PM

/-! tuple(d.items()) -/
namespace PM
open PySem PySem.Spec PyProof.Rows L2
section
variable {X : Cx} {pins : List (Addr × Obj)} {σ : L2.St} {H : Hp} {s : Shared} {d : Addr} {kvs : List (Key × V)}
theorem inv_dict (I : Inv X pins σ H s) (h : Rd H d (.dK kvs)) : kvs.length ≤ sizeLine ∧ (d == sysModules) = false ∧ ∃ (vs : List (Key × Value)) (ep : Nat), KV kvs vs ∧ s.heap.DictAt (mixKind X.prog X.w) d vs ep := by
  have x : ObjOk X.prog X.w H s.heap d (.dK kvs) := h.elim (fun q => I.hok d _ q) (fun ⟨o, q⟩ => (I.hok d _ q).2)
  obtain ⟨z1, z2, vs, z3, z4⟩ := x
  obtain ⟨ep, z5⟩ := z4.dictAt
  exact ⟨z1, z2, vs, ep, z3, z5⟩
theorem pairs_laid {h2 : Heap} {tk : Nat} {vs : List (Key × Value)} {ts : List Addr} (I : Inv X pins σ H s) (kv : KV kvs vs) (old : ∀ b o, s.heap.get? b = some o → h2.get? b = some o) (len : ts.length = vs.length) (G : PySem.W.KdxG (mixKind X.prog X.w) vs s.heap.objs.size h2 ts) :
    Grow H (LiI.putT H ts kvs) ∧ (∀ t ∈ ts, H t = none) ∧ Paired (fun (t : Addr) (q : Key × V) => LiI.putT H ts kvs t = some (.tup [kV q.1, q.2])) ts kvs ∧ Inv X pins σ (LiI.putT H ts kvs) { s with heap := h2, toks := tk } := by
  have lk : kvs.length = vs.length := Paired.length kv
  have nodup : ts.Nodup := G.rise.imp fun {a b} z => Nat.ne_of_lt z
  have free : ∀ t ∈ ts, H t = none := fun t ht => I.hok.fresh (Nat.le_of_lt (G.above t ht))
  have here := LiI.putT_at ts kvs H (by omega) nodup
  have grow : Grow H (LiI.putT H ts kvs) := fun b u e => by
    rw [LiI.putT_off ts kvs H fun z => by rw [free b z] at e; cases e]
    exact e
  refine ⟨grow, free, here, ?_⟩
  refine I.call' (ch := []) rfl ⟨fun b o z _ _ _ => old b o z, fun b o z _ _ _ => ⟨o.slots, old b o z⟩, fun b o z n _ => ?_, fun b o z _ => ⟨o, old b o z⟩, fun b xs z => grow b _ z, fun b o u z => grow b _ z, fun b ps z => ⟨#[], by rw [grow b _ z]; simp⟩⟩ (fun b u z => ?_) I.bare fun b z => by simp at z
  · rw [LiI.putT_off ts kvs H fun y => absurd (Heap.lt_size z) (Nat.not_lt.mpr (Nat.le_of_lt (G.above b y)))]
    exact n
  · by_cases hb : b ∈ ts
    · obtain ⟨j, kv1, e1, e2, e3⟩ := LiI.paired_ix here hb
      have z := e3.symm.trans z
      cases z
      obtain ⟨key, k, y, f1, f2, f3⟩ := G.pairs j b e1
      obtain ⟨kv2, g1, g2, g3⟩ := LiI.paired_get kv e2
      have g1 := f1.symm.trans g1
      cases g1
      have rk : RelV (kV kv1.1) key := g2 ▸ relV_key (show keyIs k key = true from f2)
      exact ⟨by show 2 ≤ sizeLine; decide, [key, y], .cons rk (.cons g3 .nil), ⟨_, f3, rfl, _, rfl⟩⟩
    · rw [LiI.putT_off ts kvs H hb] at z
      exact (I.hok b u z).stay (fun c v _ y => old c v y) (fun c y => grow c _ y) fun c xs y => grow c _ y
end
section
variable {prog : Program} {w : World} {A : Around} {E : Value → Shared → Prop} {s : Shared} {r d : Addr} {kvs : List (Key × Value)} {ep : Nat}
theorem newT_items {R : Value → Shared → Prop} (hh : A.handled = none) (hv : s.heap.IsItemsView r d) (hm : s.heap.DictAt (mixKind prog w) d kvs ep) (hn : kvs.length ≤ sizeLine)
    (h : ∀ (h2 : Heap) (tk : Nat) (ts : List Addr), (∀ b o, s.heap.get? b = some o → h2.get? b = some o) → ts.length = kvs.length → PySem.W.KdxG (mixKind prog w) kvs s.heap.objs.size h2 ts →
      R (.ref h2.objs.size) { s with heap := h2.push { cls := .type "tuple", data := .seq (ts.map Value.ref).toArray }, toks := tk }) :
    codeAny (model prog w) A (.call (.builtin "tuple.__new__") ⟨[.type "tuple", .ref r], []⟩) (wants R E) s := by
  refine codeAny_of_tree ?_
  show wpAny _ A.in1 (checkBuiltinCall "tuple.__new__" ⟨[.type "tuple", .ref r], []⟩ >>= fun _ => again (.builtin "tuple.__new__" ⟨[.type "tuple", .ref r], []⟩)) _ _ s
  refine wpAny_bind (wpAny_of_eq (F.newCall_tuple_1 _) (wpAny_pure ⟨plainId_quiet F.plain_tuple_new _, codeAny_builtin F.entry_tuple_new ?_⟩))
  rw [Around.under_plainId F.plain_tuple_new _]
  have z1 := sub_tuple_self
  have z2 := init_tuple_lookup
  have z3 := madeHere_tuple
  have ty : s.TypeIs (.ref r) "dict_items" := let ⟨o, ho, q, _⟩ := hv; ⟨o, ho, q⟩
  have hh1 : A.in1.handled = none := hh
  wp_walk using wpAny_typeOf ty, PySem.W.kdx_collect (A := A.in1) hh1 hv hm hn
  intro h2 tk ts old len G
  show wpAny _ _ (Builtin.Tuple.tupleExact (ts.map Value.ref).toArray >>= fun v => ret v) _ _ _
  unfold Builtin.Tuple.tupleExact
  refine wpAny_bind (wpAny_newObj_type ?_ (by show (ts.map Value.ref).toArray.size ≤ sizeLine; rw [List.size_toArray, List.length_map, len]; exact hn))
  exact wpAny_pure (h h2 tk ts old len G)
theorem callT_items {R : Value → Shared → Prop} (hh : A.handled = none) (hv : s.heap.IsItemsView r d) (hm : s.heap.DictAt (mixKind prog w) d kvs ep) (hn : kvs.length ≤ sizeLine)
    (h : ∀ (h2 : Heap) (tk : Nat) (ts : List Addr), (∀ b o, s.heap.get? b = some o → h2.get? b = some o) → ts.length = kvs.length → PySem.W.KdxG (mixKind prog w) kvs s.heap.objs.size h2 ts →
      R (.ref h2.objs.size) { s with heap := h2.push { cls := .type "tuple", data := .seq (ts.map Value.ref).toArray }, toks := tk }) :
    wpAny (model prog w) A (call (.type "tuple") [.ref r]) R E s := by
  refine callType_codes (Q₁ := fun v s1 => s1.TypeIs v "tuple" ∧ R v s1) F.called_tuple (F.typeCall_tuple_1 _) F.entry_object_init
    (newT_items (A := A.in1) hh hv hm hn fun h2 tk ts old len G => ⟨⟨_, Heap.get?_push_size _ rfl, rfl⟩, h h2 tk ts old len G⟩) fun v s1 z => ?_
  exact ⟨z.1, F.args_object_init_2 v _, object_init_meets F.called_tuple.init.lookup F.called_tuple.made (by decide) prog w A.in1 _ s1 ⟨z.1, rfl, z.2⟩⟩
end
theorem paired_mem {α β : Type} {F G : α → β → Prop} {P : α → Prop} : ∀ {xs : List α} {ys : List β}, Paired F xs ys → (∀ x ∈ xs, P x) → (∀ x y, P x → F x y → G x y) → Paired G xs ys
  | _, _, .nil, _, _ => .nil
  | _, _, .cons h t, hp, hi => .cons (hi _ _ (hp _ List.mem_cons_self) h) (paired_mem t (fun x hx => hp x (List.mem_cons_of_mem _ hx)) hi)
def rItT : V → Hp → VK → Prop := fun x H Q => ∃ (d : Addr) (kvs : List (Key × V)), x = .ref d ∧ Rd H d (.dK kvs) ∧
  ∀ (H' : Hp) (p : Addr) (ts : List Addr), Grow H H' → H p = none → (∀ t ∈ ts, H t = none) → p ∉ ts → H' p = some (.tup (ts.map V.ref)) → Paired (fun (t : Addr) (q : Key × V) => H' t = some (.tup [kV q.1, q.2])) ts kvs → Q (.ref p) H'
def rItL : V → Hp → VK → Prop := fun x H Q => ∃ (d : Addr) (kvs : List (Key × V)), x = .ref d ∧ Rd H d (.dK kvs) ∧
  ∀ (H' : Hp) (p : Addr) (ts : List Addr), Grow H H' → H p = none → (∀ t ∈ ts, H t = none) → p ∉ ts → H' p = some (.lst (ts.map V.ref)) → Paired (fun (t : Addr) (q : Key × V) => H' t = some (.tup [kV q.1, q.2])) ts kvs → Q (.ref p) H'
section
variable {X : Cx} {e : Expr} {te : TE} {p apos cpos pos : Pos} {n : String}
/-- n(e.items()), n a type -/
theorem pe_itemsOf (f : V → Hp → VK → Prop) (hrule : ∀ (pins : List (Addr × Obj)) (s : Shared) (σ : L2.St) (H : Hp) (d v : Addr) (Q : VK), Inv X pins σ H s → f (.ref d) H Q → s.heap.IsItemsView v d → wpAny (model X.prog X.w) X.A (call (.type n) [.ref v]) (EP X pins σ Q) X.xe s)
    (hf : ∀ x H Q, f x H Q → ∃ (d : Addr) (kvs : List (Key × V)), x = .ref d ∧ Rd H d (.dK kvs)) (he : PE X e te) (hg : Gl X n) (hm : X.mg n = none) (hv : bootBuiltins n = some (.type n)) (hbase : attributeBase e "items" X.env (eval e X.env) = eval e X.env := by rfl) (hline : (apos.endLine == cpos.line) = true := by rfl)
    (hs : starEach [.Call (.Attribute e "items" apos) [] [] cpos] X.env = (false, eval (.Call (.Attribute e "items" apos) [] [] cpos) X.env) :: starEach [] X.env := by rfl) (hn : Str.ofString n ≠ Str.ofString "__name__") (hdb : (Str.ofString n == Str.ofString "__debug__") = false) :
    PE X (.Call (.Name n p) [.Call (.Attribute e "items" apos) [] [] cpos] [] pos) (fun σ H Q => te σ H fun x H1 => f x H1 Q) := by
  refine ⟨fun pins s σ H Q I hq => wpAny_Call_Name_kw (ld_blt I hg hm hv ?_ hn hdb)⟩
  refine PyProof.Rows.callWith_type1 ?_ hs rfl
  rw [hs]
  show wpAny _ _ (spliced ((false, eval (.Call (.Attribute e "items" apos) [] [] cpos) X.env) :: backTo pos (starEach [] X.env))) _ _ s
  refine Calls.spliced_cons (wpAny_Call_method (T := "dict") (id := "dict.items") hbase rfl hline F.plainAttrs_dict F.slot_dict_items F.type_dict_items (thn (he.run pins s σ H _ I hq) fun u s1 ⟨x, H1, I1, rx, q⟩ => ?_))
  obtain ⟨d, kvs, rfl, hd⟩ := hf x H1 Q q
  have eu : u = Value.ref d := rx
  subst eu
  obtain ⟨z1, z2, vs, ep, z3, z4⟩ := inv_dict I1 hd
  refine ⟨z4.dictOf.typeIs, z4.dictOf.mapOf.noDict, ?_⟩
  show wpAny _ _ (callWith cpos (.builtin "dict.items") [.ref d] [] []) _ X.xe s1
  refine method_meetsIn F.slot_dict_items F.entry_dict_items rfl (PySem.evalArgs_none ⟨rfl, z4.dictOf.typeIs, F.args_dict_items_1 _, _, meets_dict_items (mixKind X.prog X.w) d z2, ⟨vs, z4.dictOf⟩, Calls.spliced_nil ?_⟩)
  exact hrule pins _ σ H1 d s1.heap.objs.size Q (I1.kept (t' := s1.toks) fun b ob z => Heap.get?_push_of_some _ z) q ⟨_, Heap.get?_push_size _ rfl, rfl, rfl⟩
theorem pe_itemsT (hc : X.calm = true) (he : PE X e te) (hg : Gl X "tuple") (hm : X.mg "tuple" = none) (hbase : attributeBase e "items" X.env (eval e X.env) = eval e X.env := by rfl) (hline : (apos.endLine == cpos.line) = true := by rfl)
    (hs : starEach [.Call (.Attribute e "items" apos) [] [] cpos] X.env = (false, eval (.Call (.Attribute e "items" apos) [] [] cpos) X.env) :: starEach [] X.env := by rfl) :
    PE X (.Call (.Name "tuple" p) [.Call (.Attribute e "items" apos) [] [] cpos] [] pos) (fun σ H Q => te σ H fun x H1 => rItT x H1 Q) := by
  refine pe_itemsOf rItT (fun pins s σ H d v Q I ⟨d', kvs, ed, hd, q⟩ hv => ?_) (fun x H Q ⟨d, kvs, e1, e2, _⟩ => ⟨d, kvs, e1, e2⟩) he hg hm (by decide +kernel) hbase hline hs (by decide) (by decide)
  cases ed
  obtain ⟨z1, z2, vs, ep, z3, z4⟩ := inv_dict I hd
  have lk : kvs.length = vs.length := Paired.length z3
  refine callT_items (I.ok.hd hc) hv z4 (by omega) fun h2 tk ts old len G => ?_
  obtain ⟨grow, free, here, J⟩ := pairs_laid (tk := tk) I z3 old len G
  have hn := J.hok.fresh (Nat.le_refl h2.objs.size)
  have hp : d ≠ h2.objs.size := fun z => by
    rw [z] at hd
    rcases hd with hd | ⟨o, hd⟩ <;> (rw [grow _ _ hd] at hn; cases hn)
  have notin : h2.objs.size ∉ ts := fun z => by
    obtain ⟨j, kv1, e1, e2, e3⟩ := LiI.paired_ix here z
    rw [hn] at e3
    cases e3
  have Hp0 : H h2.objs.size = none := grow.back hn
  have ne : ∀ t ∈ ts, t ≠ h2.objs.size := fun t ht z => notin (z ▸ ht)
  have new : ObjOk X.prog X.w (upd (LiI.putT H ts kvs) h2.objs.size (.tup (ts.map V.ref))) (h2.push { cls := .type "tuple", data := .seq (ts.map Value.ref).toArray }) h2.objs.size (.tup (ts.map V.ref)) :=
    ⟨by rw [List.length_map]; omega, ts.map Value.ref, LiI.vals_refs ts, ⟨_, Heap.get?_push_size _ rfl, rfl, _, rfl⟩⟩
  have J2 := J.laid (a := h2.objs.size) (o := .tup (ts.map V.ref)) (h' := h2.push { cls := .type "tuple", data := .seq (ts.map Value.ref).toArray }) (t' := tk) (fun _ _ z => Heap.get?_push_of_some _ z) (Nat.le_refl _) new
  refine ⟨.ref h2.objs.size, _, J2, rfl, q _ h2.objs.size ts (grow.trans (Grow.new hn)) Hp0 free notin upd_same ?_⟩
  exact paired_mem here ne fun t q z h => by rw [upd_ne z]; exact h
theorem pe_itemsL (hc : X.calm = true) (he : PE X e te) (hg : Gl X "list") (hm : X.mg "list" = none) (hbase : attributeBase e "items" X.env (eval e X.env) = eval e X.env := by rfl) (hline : (apos.endLine == cpos.line) = true := by rfl)
    (hs : starEach [.Call (.Attribute e "items" apos) [] [] cpos] X.env = (false, eval (.Call (.Attribute e "items" apos) [] [] cpos) X.env) :: starEach [] X.env := by rfl) :
    PE X (.Call (.Name "list" p) [.Call (.Attribute e "items" apos) [] [] cpos] [] pos) (fun σ H Q => te σ H fun x H1 => rItL x H1 Q) := by
  refine pe_itemsOf rItL (fun pins s σ H d v Q I ⟨d', kvs, ed, hd, q⟩ hv => ?_) (fun x H Q ⟨d, kvs, e1, e2, _⟩ => ⟨d, kvs, e1, e2⟩) he hg hm (by decide +kernel) hbase hline hs (by decide) (by decide)
  cases ed
  obtain ⟨z1, z2, vs, ep, z3, z4⟩ := inv_dict I hd
  have lk : kvs.length = vs.length := Paired.length z3
  refine PySem.W.kdx_call (knd := mixKind X.prog X.w) (kvs := vs) (ep := ep) (I.ok.hd hc) hv z4 (by omega) fun h2 tk acc c ts old hS len G ac => ?_
  obtain ⟨H', k1, k2, k3, k4, k5, k6, J⟩ := LiI.items_laid (tk := tk) I z1 z3 old hS len G ac
  exact ⟨.ref _, H', J, rfl, q H' _ ts k1 k2 k3 k4 k5 k6⟩
end
end PM

/-! error classes without an own __init__: what the top must have written; {k: v}; items as data -/
namespace PM
open PySem PySem.Spec PyProof.Rows L2
open PySem.W (Frag findIn typeIn subIn keepIn excIn exmOne)
structure Err0 (K : Frag) (c : Addr) (newId : String) (bmB : List Value) : Prop where
  exc : excIn K c bmB newId = true
  keep : keepIn K (.ref c) = true
  sub : subIn K (.ref c) (.type "BaseException") = some true
  ty : typeIn K (.ref c) = some (.type "type")
  me : exmOne K (.ref c) (.ref c) = some true
def err0B (C : Str) (newId : String) (bmB : List Value) : Chk := fun K => excIn K (He.ga K C) bmB newId && (keepIn K (.ref (He.ga K C)) && (obB (subIn K (.ref (He.ga K C)) (.type "BaseException")) (some true) && (decide (typeIn K (.ref (He.ga K C)) = some (.type "type")) && obB (exmOne K (.ref (He.ga K C)) (.ref (He.ga K C))) (some true))))
theorem err0B_ok {K : Frag} {C : Str} {newId : String} {bmB : List Value} (h : err0B C newId bmB K = true) : Err0 K (He.ga K C) newId bmB := by
  obtain ⟨h1, h⟩ := b2' h
  obtain ⟨h2, h⟩ := b2' h
  obtain ⟨h3, h⟩ := b2' h
  obtain ⟨h4, h5⟩ := b2' h
  exact ⟨h1, h2, of_decide_eq_true h3, of_decide_eq_true h4, of_decide_eq_true h5⟩
section
variable {w : Wd} {W : WX} {X : Cx} {c j : Nat} {x m : Str} {p p2 pos pos' apos cpos : Pos} {B newId initId : String} {bmB : List Value} {e k v : Expr} {me mk mv : ME}
theorem pms_raiseE (hK : w.K = X.K) (tk : Takes X W) (F : ExcBaseFacts B newId initId bmB) (q : Err0 w.K (w.cl c) newId bmB) (hg : Gl X x) (gC : X.mg x = some (.ref (w.cl c))) (hc : X.calm = true := by rfl) (hdb : (x == ("__debug__" : Str)) = false := by decide) :
    PMS X w W (.Raise (some (.Call (.Name x p) [.Constant (.str m) j p2] [] pos)) none pos') (mRaise0 c) :=
  pms_raise0 tk F (hK ▸ q.exc) (hK ▸ q.keep) (raises_own (hK ▸ q.sub) (hK ▸ q.ty)) hg gC hc hdb
/-! ### list(d.items()), tuple(d.items()) -/
def itemsT : D → Option Vl
  | .dct ks ds => some (.tup (zipT ks ds), false)
  | _ => none
theorem pm_tupItems (he : PM X w W e me) (hg : Gl X "tuple") (hm : X.mg "tuple" = none) (hc : X.calm = true := by rfl) (hbase : attributeBase e "items" X.env (eval e X.env) = eval e X.env := by rfl) (hline : (apos.endLine == cpos.line) = true := by rfl)
    (hs : starEach [Expr.Call (.Attribute e "items" apos) [] [] cpos] X.env = (false, eval (.Call (.Attribute e "items" apos) [] [] cpos) X.env) :: starEach [] X.env := by rfl) : PM X w W (.Call (.Name "tuple" p) [.Call (.Attribute e "items" apos) [] [] cpos] [] pos) (mOp1 itemsT me) := by
  obtain ⟨te, pe, se⟩ := he
  refine ⟨_, pe_itemsT hc pe hg hm hbase hline hs, ?_⟩
  refine sim_op1 (r := rItT) (fun O H x z vx Q dm ez hx k => ?_) se
  unfold itemsT at ez
  split at ez
  · rename_i ks ds
    cases ez
    simp only [Rep] at hx
    obtain ⟨a, kvs, rfl, h1, h2, h3⟩ := hx
    refine ⟨a, kvs, rfl, h1.imp (·.2) (fun ⟨o, q⟩ => ⟨o, q.2⟩), fun H' p1 ts g hp ht hpt hl hpa => ?_⟩
    refine k _ _ g ?_
    show Rep w O H' (.tup (zipT ks ds)) (.ref p1)
    simp only [Rep]
    exact ⟨p1, _, rfl, .inl ⟨fun z => dm p1 z hp, hl⟩, zip_rep h2 (RepL.step g.step _ _ h3) hpa fun t ht2 z => dm t z (ht t ht2)⟩
  · cases ez
theorem pm_lstItems (he : PM X w W e me) (hg : Gl X "list") (hm : X.mg "list" = none) (hc : X.calm = true := by rfl) (hbase : attributeBase e "items" X.env (eval e X.env) = eval e X.env := by rfl) (hline : (apos.endLine == cpos.line) = true := by rfl)
    (hs : starEach [Expr.Call (.Attribute e "items" apos) [] [] cpos] X.env = (false, eval (.Call (.Attribute e "items" apos) [] [] cpos) X.env) :: starEach [] X.env := by rfl) : PM X w W (.Call (.Name "list" p) [.Call (.Attribute e "items" apos) [] [] cpos] [] pos) (mOp1 itemsD me) := by
  obtain ⟨te, pe, se⟩ := he
  refine ⟨_, pe_itemsL hc pe hg hm hbase hline hs, ?_⟩
  refine sim_op1 (r := rItL) (fun O H x z vx Q dm ez hx k => ?_) se
  unfold itemsD at ez
  split at ez
  · rename_i ks ds
    cases ez
    simp only [Rep] at hx
    obtain ⟨a, kvs, rfl, h1, h2, h3⟩ := hx
    refine ⟨a, kvs, rfl, h1.imp (·.2) (fun ⟨o, q⟩ => ⟨o, q.2⟩), fun H' p1 ts g hp ht hpt hl hpa => ?_⟩
    refine k _ _ g ⟨p1, .lst _, rfl, hp, rfl, ⟨_, hl, zip_rep h2 (RepL.step (ins_step g hp) _ _ h3) hpa fun t ht2 z => ?_⟩⟩
    rcases z with z | z
    · exact dm t z (ht t ht2)
    · exact hpt (z ▸ ht2)
  · cases ez
end
/-! ### {k: v, ..}, keys and values that change nothing -/
/-- an expression that leaves all as it is, and whose value is data -/
def Still (X : Cx) (w : Wd) (e : Expr) (f : En → Option D) : Prop := ∃ te, PE X e te ∧ ∀ (F : Fr) (O : Av) (ρ : En) (σ : L2.St) (H : Hp) (Q : VK) (d : D), F.w = w → Rel F O ρ σ H → f ρ = some d → (∀ v, Rep F.w O H d v → Q v H) → te σ H Q
def fVar (i : Nat) : En → Option D := fun ρ => match ρ[i]? with
  | some (.val d) => some d
  | _ => none
def fC (d : D) : En → Option D := fun _ => some d
section
variable {w : Wd} {W : WX} {X : Cx} {x z : Str} {p pos : Pos} {j : Nat}
theorem still_var (i : Nat) (hN : X.N[i]? = some x := by rfl) (hv : Vis X.env.scope x := by first | exact Or.inl rfl | exact Or.inr (Or.inl rfl) | exact Or.inr (Or.inr rfl)) (hd : (x == ("__debug__" : Str)) = false := by decide)
    (hcd : (x == ("__classdict__" : Str)) = false := by decide) : Still X w (.Name x pos) (fVar i) := by
  refine ⟨_, pe_var hN hv hd hcd, fun F O ρ σ H Q d hw R e q => ?_⟩
  unfold fVar at e
  split at e
  · rename_i d' e1
    cases e
    obtain ⟨v, e2, r⟩ := R.slot i _ e1
    exact ⟨v, e2, q v r⟩
  · cases e
theorem still_str : Still X w (.Constant (.str z) j pos) (fC (.str z)) := by
  refine ⟨_, pe_str, fun F O ρ σ H Q d hw R e q => ?_⟩
  cases e
  exact q _ (by simp only [Rep])
/-- the pairs' texts -/
def StillPs (X : Cx) (w : Wd) (pos : Pos) (ks : List (Option Expr)) (vs : List Expr) (f : En → Option (List D × List D)) : Prop := ∃ trs, PPs X pos ks vs trs ∧ ∀ (F : Fr) (O : Av) (ρ : En) (σ : L2.St) (H : Hp) (Q : List (V × V) → Hp → Prop) (kd : List D × List D), F.w = w → Rel F O ρ σ H → f ρ = some kd →
  (∀ ps, RepL F.w O H kd.1 (ps.map (·.1)) → RepL F.w O H kd.2 (ps.map (·.2)) → Q ps H) → tPairs trs σ H Q
def fNil : En → Option (List D × List D) := fun _ => some ([], [])
def fCons (fk fv : En → Option D) (fr : En → Option (List D × List D)) : En → Option (List D × List D) := fun ρ => (fk ρ).bind fun k => (fv ρ).bind fun v => (fr ρ).map fun q => (k :: q.1, v :: q.2)
theorem stp_nil : StillPs X w pos [] [] fNil := ⟨_, pps_nil, fun F O ρ σ H Q kd hw R e q => by
  cases e
  exact q [] (by simp only [List.map_nil, RepL]) (by simp only [List.map_nil, RepL])⟩
theorem stp_cons {k v : Expr} {ks : List (Option Expr)} {vs : List Expr} {fk fv : En → Option D} {fr : En → Option (List D × List D)} (hk : Still X w k fk) (hv : Still X w v fv) (hr : StillPs X w pos ks vs fr) : StillPs X w pos (some k :: ks) (v :: vs) (fCons fk fv fr) := by
  obtain ⟨tk, pk, sk⟩ := hk
  obtain ⟨tv, pv, sv⟩ := hv
  obtain ⟨tr, pr, sr⟩ := hr
  refine ⟨_, pps_cons pk pv pr, fun F O ρ σ H Q kd hw R e q => ?_⟩
  unfold fCons at e
  cases e1 : fk ρ with
  | none => rw [e1] at e; cases e
  | some k1 =>
    rw [e1] at e
    cases e2 : fv ρ with
    | none => rw [e2] at e; cases e
    | some v1 =>
      rw [e2] at e
      cases e3 : fr ρ with
      | none => rw [e3] at e; cases e
      | some q1 =>
        rw [e3] at e
        cases e
        refine sk F O ρ σ H _ k1 hw R e1 fun x rx => sv F O ρ σ H _ v1 hw R e2 fun y ry => sr F O ρ σ H _ q1 hw R e3 fun ps r1 r2 => q _ ?_ ?_
        · simp only [List.map_cons, RepL]
          exact ⟨_, _, rfl, rx, r1⟩
        · simp only [List.map_cons, RepL]
          exact ⟨_, _, rfl, ry, r2⟩
/-- keys, all unlike -/
def kkD : List D → Option (List Key)
  | [] => some []
  | k :: r => (keyD k).bind fun kk => (kkD r).bind fun q => if q.any (fun z => decide (z = kk)) = true then none else some (kk :: q)
theorem kkD_rep {O : Av} {H : Hp} : ∀ {ks ds : List D} {kk : List Key} {ps : List (V × V)}, kkD ks = some kk → RepL w O H ks (ps.map (·.1)) → RepL w O H ds (ps.map (·.2)) →
    ∃ kvs : List (Key × V), ps = kvs.map (fun kv => (kV kv.1, kv.2)) ∧ kvs.length = ks.length ∧ keysD ks (kvs.map (·.1)) ∧ RepL w O H ds (kvs.map (·.2)) ∧ kvs.map (·.1) = kk ∧ kk.Nodup
  | [], ds, kk, ps, h, r1, r2 => by
    cases h
    simp only [RepL] at r1
    have e : ps = [] := List.map_eq_nil_iff.mp r1
    subst e
    exact ⟨[], rfl, rfl, rfl, r2, rfl, List.nodup_nil⟩
  | k :: ks, ds, kk, [], h, r1, r2 => by
    simp only [RepL, List.map_nil] at r1
    obtain ⟨_, _, e, _⟩ := r1
    cases e
  | k :: ks, [], kk, p :: ps, h, r1, r2 => by
    simp only [RepL, List.map_cons] at r2
    cases r2
  | k :: ks, d :: ds, kk, p :: ps, h, r1, r2 => by
    simp only [kkD] at h
    cases e1 : keyD k with
    | none => rw [e1] at h; cases h
    | some k1 =>
      rw [e1] at h
      simp only [Option.bind_some] at h
      cases e2 : kkD ks with
      | none => rw [e2] at h; cases h
      | some q =>
        rw [e2] at h
        simp only [Option.bind_some] at h
        split at h
        · cases h
        · rename_i hn0
          have hn : k1 ∉ q := fun z => hn0 (List.any_eq_true.mpr ⟨k1, z, decide_eq_true rfl⟩)
          cases h
          simp only [RepL, List.map_cons, List.cons.injEq] at r1 r2
          obtain ⟨v1, vs1, ⟨rfl, rfl⟩, hk, r1⟩ := r1
          obtain ⟨v2, vs2, ⟨rfl, rfl⟩, hd, r2⟩ := r2
          obtain ⟨kvs, rfl, g1, g2, g3, g4, g5⟩ := kkD_rep e2 r1 r2
          have ek := key_rep e1 hk
          refine ⟨(k1, p.2) :: kvs, ?_, by simp [g1], ⟨k1, _, rfl, e1, g2⟩, ?_, by simp [g4], List.nodup_cons.mpr ⟨hn, g5⟩⟩
          · simp only [List.map_cons]
            rw [← ek]
          · simp only [RepL, List.map_cons]
            exact ⟨_, _, rfl, hd, g3⟩
def mDisp (f : En → Option (List D × List D)) : ME := fun ρ => match f ρ with
  | some kd => (match kkD kd.1 with
    | some _ => if kd.1.length ≤ 15 then .ok (.dct kd.1 kd.2, true) ρ else .stuck
    | none => .stuck)
  | none => .stuck
theorem pm_disp {ks : List (Option Expr)} {vs : List Expr} {f : En → Option (List D × List D)} (h : StillPs X w pos ks vs f) (hall : ks.all (·.isSome) = true := by rfl) (hl : ks.length = vs.length := by rfl) (h0 : ks ≠ [] := by simp) (h15 : ks.length ≤ 15 := by simp) : PM X w W (.Dict ks vs pos) (mDisp f) := by
  obtain ⟨trs, pp, sp⟩ := h
  refine ⟨_, pe_disp pp hall hl h0 h15, fun F O ρ σ H Q hw R hh => ?_⟩
  subst hw
  unfold mDisp at hh
  split at hh
  · rename_i kd e
    split at hh
    · rename_i kk ek
      split at hh
      · rename_i hlen
        intro p hp
        have g := Grow.new (o := HO.dK []) hp
        have R1 := R.guard g hp (by rw [upd_same]; simp)
        refine sp F (ins O p) ρ σ _ _ kd rfl R1 e fun ps r1 r2 => ?_
        obtain ⟨kvs, rfl, g1, g2, g3, g4, g5⟩ := kkD_rep ek r1 r2
        refine ⟨upd_same, kvs, rfl, by rw [g1]; exact hlen, ?_⟩
        have em : mergeK [] kvs = kvs := by
          have := mergeK_new kvs [] (by rw [List.nil_append, g4]; exact g5)
          simpa using this
        rw [em]
        have ms : Step (ins O p) (upd H p (.dK [])) (ins O p) (upd (upd H p (.dK [])) p (.dK kvs)) := mut_step (.inr rfl)
        exact hh (ins O p) _ (.ref p) ((ins_step g hp).trans ms) (R1.updG (.inr rfl) (R.apart hp) (R.freshE hp)) ⟨p, .dct kd.1 kd.2, rfl, hp, .inr rfl, rfl, ⟨kvs, upd_same, g2, RepL.step ms _ _ g3⟩, R.apart hp⟩
      · exact hh.elim
    · exact hh.elim
  · exact hh.elim
end
end PM

/-! exceptions as values: made, asked by isinstance, their fields read -/
namespace PM
open PySem PySem.Spec PyProof.Rows L2
open PySem.W (Frag findIn typeIn subIn keepIn excIn exmOne clsIn specialIn takesIn mroIn hasDictIn kitOne)
/-- what is known of a class of errors whose instances are asked -/
structure XcK (K : Frag) (C : Addr) : Prop where
  cl : (clsIn K C).isSome = true
  ga : findIn K (.ref C) "__getattribute__" = some (some (.builtin "BaseException.__getattribute__"))
  gg : findIn K (.ref C) "__getattr__" = some none
  sb : subIn K (.ref C) (.type "BaseException") = some true
  ca : findIn K (.ref C) "__class__" = some (some (.builtin "object.__class__"))
  sp : specialIn K (.builtin "object.__class__") "__get__" = some (some (.builtin "getset_descriptor.__get__"))
  tk : takesIn K (.builtin "object.__class__") = some true
  mr : mroIn K C (.type "object") = some true
  hd : hasDictIn K C = true
def xckB (C : Str) : Chk := fun K => (clsIn K (He.ga K C)).isSome && (decide (findIn K (.ref (He.ga K C)) "__getattribute__" = some (some (.builtin "BaseException.__getattribute__"))) && (decide (findIn K (.ref (He.ga K C)) "__getattr__" = some none) &&
  (obB (subIn K (.ref (He.ga K C)) (.type "BaseException")) (some true) && (decide (findIn K (.ref (He.ga K C)) "__class__" = some (some (.builtin "object.__class__"))) && (decide (specialIn K (.builtin "object.__class__") "__get__" = some (some (.builtin "getset_descriptor.__get__"))) &&
  (obB (takesIn K (.builtin "object.__class__")) (some true) && (obB (mroIn K (He.ga K C) (.type "object")) (some true) && hasDictIn K (He.ga K C))))))))
theorem xckB_ok {K : Frag} {C : Str} (h : xckB C K = true) : XcK K (He.ga K C) := by
  obtain ⟨h1, h⟩ := b2' h
  obtain ⟨h2, h⟩ := b2' h
  obtain ⟨h3, h⟩ := b2' h
  obtain ⟨h4, h⟩ := b2' h
  obtain ⟨h5, h⟩ := b2' h
  obtain ⟨h6, h⟩ := b2' h
  obtain ⟨h7, h⟩ := b2' h
  obtain ⟨h8, h9⟩ := b2' h
  exact ⟨h1, of_decide_eq_true h2, of_decide_eq_true h3, of_decide_eq_true h4, of_decide_eq_true h5, of_decide_eq_true h6, of_decide_eq_true h7, of_decide_eq_true h8, h9⟩
section
variable {X : Cx}
/-- an exception that is tracked: its object -/
theorem exn_at {pins : List (Addr × Obj)} {σ : L2.St} {H : Hp} {s : Shared} {D a : Addr} (I : Inv X pins σ H s) (h : H a = some (ExO (.ref D) a) ∨ ∃ d fs, H a = some (ExD (.ref D) d a) ∧ H d = some (.xd fs)) : ∃ oe od, PySem.W.InstAt s.heap a oe D od := by
  rcases h with h | ⟨d, fs, h, hd⟩
  · obtain ⟨⟨oe, vs, e1, e2, e3, _⟩, _⟩ := I.hok a _ h
    exact ⟨oe, none, e1, e2.1, by unfold PySem.W.notCls; rw [e3] <;> rfl, by rw [e2.2]; trivial⟩
  · obtain ⟨⟨oe, vs, e1, e2, e3⟩, _⟩ := I.hok a _ h
    obtain ⟨mA, hns, hr⟩ := I.hok d _ hd
    obtain ⟨od, ho, hl⟩ := lookIn_ns hns
    exact ⟨oe, some od, e1, e2.1, by unfold PySem.W.notCls; rw [e3] <;> rfl, by rw [e2.2]; exact ho⟩
def rIsX (K : Frag) : List V → Hp → VK → Prop := fun xs H Q => ∃ (D a : Addr) (c : V) (cv : Value) (b : Bool), xs = [.ref a, c] ∧ XcK K D ∧ (H a = some (ExO (.ref D) a) ∨ ∃ d fs, H a = some (ExD (.ref D) d a) ∧ H d = some (.xd fs)) ∧ (∀ u, RelV c u → u = cv) ∧ kitOne K (.ref D) cv = some b ∧ Q (.bl b) H
theorem call_isX : CallR X (.builtin "isinstance") (rIsX X.K) := by
  intro pins s σ H xs us Q I r h
  obtain ⟨D, a, c, cv, b, rfl, C, ha, hcv, e, q⟩ := h
  cases r with
  | cons rx rr =>
    cases rr with
    | cons rt rr =>
      cases rr
      cases rx
      have ec := hcv _ rt
      subst ec
      obtain ⟨oe, od, J⟩ := exn_at I ha
      exact PySem.W.kia_one (PySem.W.kitx_exc C.cl C.ga C.gg C.sb C.ca C.sp C.tk C.mr) I.kIn J e (fun z => nomatch z) fun tk => ⟨.bl b, H, I.kept (t' := tk) fun _ _ z => z, rfl, q⟩
/-- .. of the exception that is handled here -/
def rIsP (K : Frag) (D a : Addr) : List V → Hp → VK → Prop := fun xs H Q => ∃ (c : V) (cv : Value) (b : Bool), xs = [.ref a, c] ∧ (∀ u, RelV c u → u = cv) ∧ kitOne K (.ref D) cv = some b ∧ Q (.bl b) H
theorem call_isP {a D : Addr} {oe : Obj} (hp : (a, oe) ∈ X.pn) (C : XcK X.K D) (hz : Zc (.ref D) none oe) (hf : ∃ vs, oe.data = .fields vs) : CallR X (.builtin "isinstance") (rIsP X.K D a) := by
  intro pins s σ H xs us Q I r h
  obtain ⟨c, cv, b, rfl, hcv, e, q⟩ := h
  cases r with
  | cons rx rr =>
    cases rr with
    | cons rt rr =>
      cases rr
      cases rx
      have ec := hcv _ rt
      subst ec
      obtain ⟨e1, _⟩ := I.pin (a, oe) (List.mem_append_left _ hp)
      obtain ⟨vs, e3⟩ := hf
      have J : PySem.W.InstAt s.heap a oe D none := ⟨e1, hz.1, by unfold PySem.W.notCls; rw [e3] <;> rfl, by rw [hz.2]; trivial⟩
      exact PySem.W.kia_one (PySem.W.kitx_exc C.cl C.ga C.gg C.sb C.ca C.sp C.tk C.mr) I.kIn J e (fun z => nomatch z) fun tk => ⟨.bl b, H, I.kept (t' := tk) fun _ _ z => z, rfl, q⟩
/-- what makes an exception gives it as a value -/
theorem pe_ofMk {e : Expr} {t : L2.St → Hp → XK → Prop} (h : PMk X e t) : PE X e (fun σ H Q => t σ H fun cls od H1 => ∃ d, od = some d ∧ ∀ a, H1 a = none → Q (.ref a) (upd H1 a (ExD cls d a))) := by
  refine ⟨fun pins s σ H Q I q => wpAny_mono (h pins s σ H _ I q) (fun u s1 hu => ?_) fun _ _ x => x⟩
  obtain ⟨a, oe, vs, sI, H1, cls, od, rfl, J, kp, na, ho, hz, hd, h1, hn, hos, hb, hr, d, rfl, q⟩ := hu
  have new : ObjOk X.prog X.w (upd H1 a (ExD cls d a)) s1.heap a (ExD cls d a) := ⟨⟨oe, vs, ho, hz, hd⟩, ⟨oe, ho⟩, fun g1 g2 ⟨o1, v1, p1, p2, p3⟩ k => ⟨o1, v1, k _ p1, p2, p3⟩⟩
  have J1 := J.laidN (h' := s1.heap) (t' := s1.toks) kp na hn new
  exact ⟨.ref a, upd H1 a (ExD cls d a), ⟨J1.ok, hos.trans J.os, hb, J1.base, J1.loc, J1.cell, J1.free, J1.freeC, J1.pin, J1.hok, J1.len⟩, rfl, q a hn⟩
/-- e.f, e an exception as a value -/
def tXv (K : Frag) (f : Str) (te : TE) : TE := fun σ H Q => te σ H fun x H1 => ∃ (C a d : Addr) (fs : List (Str × V)) (v : V), x = .ref a ∧ XcK K C ∧ findIn K (.ref C) f = some none ∧ H1 a = some (ExD (.ref C) d a) ∧ H1 d = some (.xd fs) ∧ fs.lookup f = some v ∧ Q v H1
theorem pe_xv {e : Expr} {te : TE} {pos : Pos} {n : Str} (he : PE X e te) (hb : attributeBase e n X.env (eval e X.env) = eval e X.env := by rfl) : PE X (.Attribute e n pos) (tXv X.K n te) := by
  refine ⟨fun pins s σ H Q I h => attr_of hb (thn (he.run pins s σ H _ I h) fun u s1 hh => ?_)⟩
  obtain ⟨x, H1, I1, rx, C, a, d, fs, v, rfl, T, hno, ha, hd, l, q⟩ := hh
  have eu : u = Value.ref a := rx
  subst eu
  obtain ⟨⟨oe, vs, e1, e2, e3⟩, _⟩ := I1.hok a _ ha
  obtain ⟨mA, hns, hr⟩ := I1.hok d _ hd
  obtain ⟨od, ho, hl⟩ := lookIn_ns hns
  obtain ⟨u, hu, ru⟩ := RelO.some_of (v := v) (o := mA n) (by rw [← l]; exact hr n)
  have J : PySem.W.InstAt s1.heap a oe C (some od) := ⟨e1, e2.1, by unfold PySem.W.notCls; rw [e3] <;> rfl, by rw [e2.2]; exact ho⟩
  exact HandSPX.exc_get I1.kIn J T.ga T.gg T.sb (PySem.W.findObj_own T.hd hno rfl (by rw [hl, hu])) (handed_of ru) ⟨v, H1, I1.tok _, ru, q⟩
end
/-! ### as data -/
def isXD (ans : Nat → Option Bool) : D → Option Vl
  | .exn c _ _ => (ans c).map dB
  | _ => none
def xfldD (c0 : Nat) (f : Str) : D → Option Vl
  | .exn c [n] [d] => if c = c0 ∧ n = f then some (d, false) else none
  | _ => none
def isPD (b : Bool) : D → Option Vl
  | .cls k => if k = 99 then some (dB b) else none
  | _ => none
def mExn0 (c : Nat) : ME := fun ρ => .ok (.exn c [] [], false) ρ
def mExn1 (c : Nat) (f : Str) (m : ME) : ME := fun ρ => (m ρ).bind fun x ρ1 => .ok (.exn c [f] [x.1], false) ρ1
section
variable {w : Wd} {W : WX} {X : Cx} {c j : Nat} {x m0 fld : Str} {p p2 pos pos' : Pos} {B newId initId : String} {bmB : List Value} {e : Expr} {m : ME} {te : TE}
theorem pm_exn0 (F : ExcBaseFacts B newId initId bmB) (hK : w.K = X.K) (q1 : excIn w.K (w.cl c) bmB newId = true) (q2 : keepIn w.K (.ref (w.cl c)) = true) (hg : Gl X x) (gC : X.mg x = some (.ref (w.cl c))) (hdb : (x == ("__debug__" : Str)) = false := by decide) (hs : starEach [Expr.Constant (.str m0) j p2] X.env = (false, eval (.Constant (.str m0) j p2) X.env) :: starEach [] X.env := by rfl) :
    PM X w W (.Call (.Name x p) [.Constant (.str m0) j p2] [] pos) (mExn0 c) := by
  refine ⟨_, pe_exc1 F (hK ▸ q1) gC (hK ▸ q2) hg pe_str hs hdb, fun F O ρ σ H Q hw R hh => ?_⟩
  subst hw
  intro a ha
  have g : Grow H (upd H a (ExO (.ref (F.w.cl c)) a)) := Grow.new ha
  refine hh O _ (.ref a) g.step (R.grow g) ?_
  show Rep F.w O _ (.exn c [] []) (.ref a)
  simp only [Rep, RepL]
  exact ⟨a, [], rfl, .inl ⟨trivial, R.fresh ha, upd_same⟩, rfl⟩
theorem pm_exn1 (hK : w.K = X.K) (T : ErrK X.prog X.K (w.cl c) fld) (hm : X.mg "super" = none) (hr : Room 1 X.A) (hg : Gl X x) (gC : X.mg x = some (.ref (w.cl c))) (he : PM X w W e m) (hdb : (x == ("__debug__" : Str)) = false := by decide)
    (hs : starEach [e] X.env = (false, eval e X.env) :: starEach [] X.env := by rfl) : PM X w W (.Call (.Name x p) [e] [] pos) (mExn1 c fld m) := by
  obtain ⟨te, pe, se⟩ := he
  refine ⟨_, pe_ofMk (pmk_sup T hm hr hg gC pe hdb hs), fun F O ρ σ H Q hw R hh => ?_⟩
  subst hw
  refine se.bind rfl R hh fun y v ρ1 O1 H1 st1 R1 rv h1 d hd => ?_
  refine ⟨d, rfl, fun a ha => ?_⟩
  have g1 : Grow H1 (upd H1 d (.xd [(fld, v)])) := Grow.new hd
  have g2 : Grow (upd H1 d (.xd [(fld, v)])) (upd (upd H1 d (.xd [(fld, v)])) a (ExD (.ref (F.w.cl c)) d a)) := Grow.new ha
  have g := g1.trans g2
  have ne : a ≠ d := fun z => by rw [z, upd_same] at ha; cases ha
  refine h1 O1 _ (.ref a) (st1.trans g.step) (R1.grow g) ?_
  show Rep F.w O1 _ (.exn c [fld] [y.1]) (.ref a)
  simp only [Rep, RepL]
  exact ⟨a, [v], rfl, .inr ⟨d, ⟨(R1.grow g1).fresh ha, upd_same⟩, R1.fresh hd, by rw [upd_ne (Ne.symm ne), upd_same]; rfl⟩, v, [], rfl, Rep.step g.step _ _ rv, rfl⟩
theorem exn_rep {O : Av} {H : Hp} {c : Nat} {ns : List Str} {ds : List D} {v : V} (h : Rep w O H (.exn c ns ds) v) : ∃ a, v = .ref a ∧ (H a = some (ExO (.ref (w.cl c)) a) ∨ ∃ d fs, H a = some (ExD (.ref (w.cl c)) d a) ∧ H d = some (.xd fs)) := by
  simp only [Rep] at h
  obtain ⟨a, vs, rfl, h1, _⟩ := h
  exact ⟨a, rfl, h1.imp (fun q => q.2.2) (fun ⟨d, q1, q2⟩ => ⟨d, _, q1.2, q2.2⟩)⟩
theorem sim_isX {ans : Nat → Option Bool} {u : Value} {cv : V} (hcv : ∀ z, RelV cv z → z = u) (hans : ∀ c b, ans c = some b → XcK w.K (w.cl c) ∧ kitOne w.K (.ref (w.cl c)) u = some b) (se : Sim w W te m) : Sim w W (tCB (rIsX w.K) (tCons te (tCons (tC cv) tNil))) (mOp1 (isXD ans) m) := fun F O ρ σ H Q hw R hh => by
  subst hw
  refine se.bind rfl R hh fun x v ρ1 O1 H1 st1 R1 rx h1 => ?_
  cases e : isXD ans x.1 with
  | none => rw [e] at h1; exact h1.elim
  | some z =>
    rw [e] at h1
    unfold isXD at e
    split at e
    · rename_i c ns ds ex
      rw [ex] at rx
      cases q : ans c with
      | none => rw [q] at e; cases e
      | some b =>
        rw [q] at e
        cases e
        obtain ⟨a, rfl, ha⟩ := exn_rep rx
        obtain ⟨h2, h3⟩ := hans c b q
        exact ⟨F.w.cl c, a, cv, u, b, rfl, h2, ha, hcv, h3, (h1.go st1 R1).bl⟩
    · cases e
theorem pm_isXB {ans : Nat → Option Bool} {T : String} {x : Str} (hK : w.K = X.K) (hans : ∀ c b, ans c = some b → XcK w.K (w.cl c) ∧ kitOne w.K (.ref (w.cl c)) (.type T) = some b) (hg : Gl X "isinstance") (hm : X.mg "isinstance" = none) (hgT : Gl X x) (hmT : X.mg x = none) (hvT : bootBuiltins x = some (.type T)) (he : PM X w W e m)
    (hnT : x ≠ "__name__" := by decide) (hdT : (x == ("__debug__" : Str)) = false := by decide) (hs : starEach [e, .Name x p2] X.env = (false, eval e X.env) :: starEach [.Name x p2] X.env := by rfl) (hs2 : starEach [Expr.Name x p2] X.env = (false, eval (.Name x p2) X.env) :: starEach [] X.env := by rfl)
    (hpl : (backTo pos (starEach [Expr.Name x p2] X.env)).any (·.1) = false := by rfl) : PM X w W (.Call (.Name "isinstance" p) [e, .Name x p2] [] pos) (mOp1 (isXD ans) m) := by
  obtain ⟨te, pe, se⟩ := he
  refine ⟨_, pe_callB call_isX hg hm (by decide +kernel) (pa_cons pe (pa_cons (pe_bltn (v := .ty T) hgT hmT hvT rfl hnT hdT) pa_nil hs2) hs) (by decide) (by decide) hs hpl, ?_⟩
  rw [← hK]
  exact sim_isX (fun z hz => hz) hans se
theorem pm_isXC {ans : Nat → Option Bool} {C : Addr} {x : Str} (hK : w.K = X.K) (hans : ∀ c b, ans c = some b → XcK w.K (w.cl c) ∧ kitOne w.K (.ref (w.cl c)) (.ref C) = some b) (hg : Gl X "isinstance") (hm : X.mg "isinstance" = none) (hgT : Gl X x) (hmT : X.mg x = some (.ref C)) (he : PM X w W e m)
    (hdT : (x == ("__debug__" : Str)) = false := by decide) (hs : starEach [e, .Name x p2] X.env = (false, eval e X.env) :: starEach [.Name x p2] X.env := by rfl) (hs2 : starEach [Expr.Name x p2] X.env = (false, eval (.Name x p2) X.env) :: starEach [] X.env := by rfl)
    (hpl : (backTo pos (starEach [Expr.Name x p2] X.env)).any (·.1) = false := by rfl) : PM X w W (.Call (.Name "isinstance" p) [e, .Name x p2] [] pos) (mOp1 (isXD ans) m) := by
  obtain ⟨te, pe, se⟩ := he
  refine ⟨_, pe_callB call_isX hg hm (by decide +kernel) (pa_cons pe (pa_cons (pe_glob (v := .ref C) hgT hmT rfl hdT) pa_nil hs2) hs) (by decide) (by decide) hs hpl, ?_⟩
  rw [← hK]
  exact sim_isX (fun z hz => hz) hans se
/-- isinstance(e, C), e the exception that is handled: number 99 -/
theorem pm_isP {b : Bool} {C D : Addr} {oe : Obj} {x : Str} (hK : w.K = X.K) (hp : (w.cl 99, oe) ∈ X.pn) (T : XcK w.K D) (hz : Zc (.ref D) none oe) (hf : ∃ vs, oe.data = .fields vs) (hb : kitOne w.K (.ref D) (.ref C) = some b) (hg : Gl X "isinstance") (hm : X.mg "isinstance" = none) (hgT : Gl X x) (hmT : X.mg x = some (.ref C)) (he : PM X w W e m)
    (hdT : (x == ("__debug__" : Str)) = false := by decide) (hs : starEach [e, .Name x p2] X.env = (false, eval e X.env) :: starEach [.Name x p2] X.env := by rfl) (hs2 : starEach [Expr.Name x p2] X.env = (false, eval (.Name x p2) X.env) :: starEach [] X.env := by rfl)
    (hpl : (backTo pos (starEach [Expr.Name x p2] X.env)).any (·.1) = false := by rfl) : PM X w W (.Call (.Name "isinstance" p) [e, .Name x p2] [] pos) (mOp1 (isPD b) m) := by
  obtain ⟨te, pe, se⟩ := he
  refine ⟨_, pe_callB (call_isP hp (hK ▸ T) hz hf) hg hm (by decide +kernel) (pa_cons pe (pa_cons (pe_glob (v := .ref C) hgT hmT rfl hdT) pa_nil hs2) hs) (by decide) (by decide) hs hpl, fun F O ρ σ H Q hw R hh => ?_⟩
  subst hw
  refine se.bind rfl R hh fun y v ρ1 O1 H1 st1 R1 rx h1 => ?_
  cases ez : isPD b y.1 with
  | none => rw [ez] at h1; exact h1.elim
  | some z =>
    rw [ez] at h1
    unfold isPD at ez
    split at ez
    · rename_i k ex
      split at ez
      · rename_i hk
        cases ez
        subst hk
        rw [ex] at rx
        simp only [Rep] at rx
        subst rx
        exact ⟨.ref C, .ref C, b, rfl, fun z hz => hz, hK ▸ hb, (h1.go st1 R1).bl⟩
      · cases ez
    · cases ez
theorem pm_xfld {c0 : Nat} {f : Str} (hK : w.K = X.K) (T : XcK w.K (w.cl c0)) (hf : findIn w.K (.ref (w.cl c0)) f = some none) (he : PM X w W e m) (hb : attributeBase e f X.env (eval e X.env) = eval e X.env := by rfl) : PM X w W (.Attribute e f pos) (mOp1 (xfldD c0 f) m) := by
  obtain ⟨te, pe, se⟩ := he
  refine ⟨_, pe_xv pe hb, fun F O ρ σ H Q hw R hh => ?_⟩
  subst hw
  refine se.bind rfl R hh fun y v ρ1 O1 H1 st1 R1 rx h1 => ?_
  cases ez : xfldD c0 f y.1 with
  | none => rw [ez] at h1; exact h1.elim
  | some z =>
    rw [ez] at h1
    unfold xfldD at ez
    split at ez
    · rename_i c n d ex
      split at ez
      · rename_i hc
        obtain ⟨rfl, rfl⟩ := hc
        cases ez
        rw [ex] at rx
        simp only [Rep, RepL] at rx
        obtain ⟨a, vs, rfl, h2, v', _, rfl, rd, rfl⟩ := rx
        rcases h2 with ⟨z, _⟩ | ⟨d', h3, h4⟩
        · cases z
        · rw [← hK]
          exact ⟨_, a, d', _, v', rfl, T, hf, h3.2, h4.2, by simp [List.lookup], (h1.go st1 R1) v' H1 (Grow.refl H1) rd⟩
      · cases ez
    · cases ez
end
end PM

/-! repr of data in which dicts stand -/
namespace PM
open PySem PySem.Spec PyProof.Rows L2
def keyPys : List D → Option (List PyData)
  | [] => some []
  | .int i :: r => (keyPys r).map (.int i :: ·)
  | .str x :: r => (keyPys r).map (.str x :: ·)
  | _ => none
mutual
def pyX : D → Option PyData
  | .non => some .none
  | .bl b => some (.bool b)
  | .int i => some (.int i)
  | .str x => some (.str x)
  | .tup ds => (pyXs ds).map .tuple
  | .lst ds => (pyXs ds).map .list
  | .dct ks ds => (pyXs ds).bind fun ps => (keyPys ks).map fun qs => .dict (qs.zip ps)
  | .obj _ _ => none
  | .scr _ => none
  | .cls _ => none
  | .exn _ _ _ => none
def pyXs : List D → Option (List PyData)
  | [] => some []
  | d :: ds => (pyX d).bind fun p => (pyXs ds).map (p :: ·)
end
section
variable {X : Cx} {pins : List (Addr × Obj)} {σ : L2.St} {H : Hp} {s : Shared} {w : Wd} {O : Av}
theorem not_sys (I : Inv X pins σ H s) (hs : (X.K.lookup sysModules).isSome = true) {a : Addr} {o : HO} (h : H a = some o) : a ≠ sysModules := fun z => by
  obtain ⟨ob, e⟩ := Option.isSome_iff_exists.mp hs
  have := (I.bs _ _ (I.ok.mod.kin _ _ e)).2
  rw [z, this] at h
  cases h
theorem reads_keys : ∀ {ks : List D} {kk : List Key} {qs : List PyData} {es : List DictEntry} {vs : List (Key × Value)} {h : Heap}, keysD ks kk → keyPys ks = some qs → vs.map (·.1) = kk → Pairs (mixKind X.prog X.w) es vs → ReadsAll h (es.map (·.key)) qs []
  | [], kk, qs, es, vs, h, hk, hq, hv, hp => by
    cases hq
    have hk : kk = [] := hk
    rw [hk] at hv
    have : vs = [] := List.map_eq_nil_iff.mp hv
    subst this
    cases hp
    exact .nil
  | k :: ks, kk, qs, es, vs, h, hk, hq, hv, hp => by
    obtain ⟨k1, ks1, rfl, e1, hk⟩ := hk
    cases hp with
    | nil => cases hv
    | cons h1 h2 h3 =>
      rename_i e kv es kvs
      simp only [List.map_cons, List.cons.injEq] at hv
      obtain ⟨hv1, hv2⟩ := hv
      have rk : RelV (kV kv.1) e.key := relV_key (show keyIs kv.1 e.key = true from h1)
      rw [hv1] at rk
      cases k with
      | int i =>
        cases e1
        simp only [keyPys] at hq
        cases q : keyPys ks with
        | none => rw [q] at hq; cases hq
        | some qs' =>
          rw [q] at hq
          cases hq
          obtain ⟨t, ek⟩ : ∃ t, e.key = .int i t := rk
          have := ReadsAll.cons (Reads.int i t) (reads_keys (h := h) hk q hv2 h3)
          rw [List.map_cons, ek]
          exact this
      | str x =>
        cases e1
        simp only [keyPys] at hq
        cases q : keyPys ks with
        | none => rw [q] at hq; cases hq
        | some qs' =>
          rw [q] at hq
          cases hq
          obtain ⟨t, ek⟩ : ∃ t, e.key = .str x t := rk
          have := ReadsAll.cons (Reads.str x t) (reads_keys (h := h) hk q hv2 h3)
          rw [List.map_cons, ek]
          exact this
      | _ => cases e1
theorem keyPys_len : ∀ {ks : List D} {qs : List PyData}, keyPys ks = some qs → qs.length = ks.length
  | [], qs, h => by cases h; rfl
  | .int i :: ks, qs, h => by
    simp only [keyPys] at h
    cases q : keyPys ks with
    | none => rw [q] at h; cases h
    | some r => rw [q] at h; cases h; simp [keyPys_len q]
  | .str i :: ks, qs, h => by
    simp only [keyPys] at h
    cases q : keyPys ks with
    | none => rw [q] at h; cases h
    | some r => rw [q] at h; cases h; simp [keyPys_len q]
  | .non :: ks, qs, h => by cases h
  | .bl _ :: ks, qs, h => by cases h
  | .tup _ :: ks, qs, h => by cases h
  | .lst _ :: ks, qs, h => by cases h
  | .dct _ _ :: ks, qs, h => by cases h
  | .obj _ _ :: ks, qs, h => by cases h
  | .scr _ :: ks, qs, h => by cases h
  | .cls _ :: ks, qs, h => by cases h
  | .exn _ _ _ :: ks, qs, h => by cases h
theorem pyXs_len : ∀ {ds : List D} {ps : List PyData}, pyXs ds = some ps → ps.length = ds.length
  | [], ps, h => by simp only [pyXs] at h; cases h; rfl
  | d :: ds, ps, h => by
    simp only [pyXs] at h
    cases q : pyX d with
    | none => rw [q] at h; cases h
    | some p =>
      rw [q] at h
      simp only [Option.bind_some] at h
      cases q2 : pyXs ds with
      | none => rw [q2] at h; cases h
      | some r => rw [q2] at h; cases h; simp [pyXs_len q2]
theorem kv_vals : ∀ {kvs : List (Key × V)} {vs : List (Key × Value)}, KV kvs vs → kvs.map (·.1) = vs.map (·.1) ∧ Vals (kvs.map (·.2)) (vs.map (·.2))
  | _, _, .nil => ⟨rfl, .nil⟩
  | _, _, .cons h t => by
    obtain ⟨h1, h2⟩ := kv_vals t
    exact ⟨by simp [h.1, h1], .cons h.2 h2⟩
theorem pairs_vals {es : List DictEntry} {vs : List (Key × Value)} (h : Pairs (mixKind X.prog X.w) es vs) : es.map (·.val) = vs.map (·.2) := by
  induction h with
  | nil => rfl
  | cons h1 h2 h3 ih => simp [h2, ih]
mutual
theorem reads_rep (I : Inv X pins σ H s) (hs : (X.K.lookup sysModules).isSome = true) (hK : w.K = X.K) : ∀ (d : D) (v : V) (p : PyData) (u : Value), Rep w O H d v → pyX d = some p → RelV v u → ∃ as, Reads s.heap u p as ∧ sysModules ∉ as
  | .non, v, p, u, h, e, r => by
    simp only [Rep] at h
    simp only [pyX] at e
    cases e; subst h; cases r
    exact ⟨_, Reads.none, by simp⟩
  | .bl b, v, p, u, h, e, r => by
    simp only [Rep] at h
    simp only [pyX] at e
    cases e; subst h; cases r
    exact ⟨_, Reads.bool b, by simp⟩
  | .int b, v, p, u, h, e, r => by
    simp only [Rep] at h
    simp only [pyX] at e
    cases e; subst h
    obtain ⟨t, rfl⟩ := r
    exact ⟨_, Reads.int b t, by simp⟩
  | .str b, v, p, u, h, e, r => by
    simp only [Rep] at h
    simp only [pyX] at e
    cases e; subst h
    obtain ⟨t, rfl⟩ := r
    exact ⟨_, Reads.str b t, by simp⟩
  | .tup ds, v, p, u, h, e, r => by
    simp only [Rep] at h
    simp only [pyX] at e
    obtain ⟨a, vs, rfl, h1, h2⟩ := h
    cases q : pyXs ds with
    | none => rw [q] at e; cases e
    | some ps =>
      rw [q] at e
      cases e
      cases r
      obtain ⟨its, rv, ⟨o, ho, hc, n, hd⟩, _⟩ := I.tuple (hK ▸ sq_of_rep h1)
      obtain ⟨as, hr, hn⟩ := reads_reps I hs hK ds vs ps its h2 q rv
      exact ⟨_, Reads.tuple ho hc hd hr, hn⟩
  | .lst ds, v, p, u, h, e, r => by
    simp only [Rep] at h
    simp only [pyX] at e
    obtain ⟨a, vs, rfl, h1, h2⟩ := h
    cases q : pyXs ds with
    | none => rw [q] at e; cases e
    | some ps =>
      rw [q] at e
      cases e
      cases r
      obtain ⟨its, rv, ⟨o, n, ho, hc, _, hd⟩, _⟩ := I.list (by rw [← hK]; exact sl_of_rep h1)
      obtain ⟨as, hr, hn⟩ := reads_reps I hs hK ds vs ps its h2 q rv
      refine ⟨_, Reads.list ho hc hd hr, fun z => ?_⟩
      rcases List.mem_cons.mp z with z | z
      · exact not_sys I hs h1.2 z.symm
      · exact hn z
  | .dct ks ds, v, p, u, h, e, r => by
    simp only [Rep] at h
    simp only [pyX] at e
    obtain ⟨a, kvs, rfl, h1, hk, h2⟩ := h
    cases q : pyXs ds with
    | none => rw [q] at e; cases e
    | some ps =>
      rw [q] at e
      simp only [Option.bind_some] at e
      cases q2 : keyPys ks with
      | none => rw [q2] at e; cases e
      | some qs =>
        rw [q2] at e
        cases e
        cases r
        have x : ObjOk X.prog X.w H s.heap a (.dK kvs) := h1.elim (fun q => I.hok a _ q.2) (fun ⟨o, q⟩ => (I.hok a _ q.2).2)
        obtain ⟨_, sy, vs, kv, o, es, ep, ho, hx, hd, _, hp, _⟩ := x
        obtain ⟨k1, k2⟩ := kv_vals kv
        obtain ⟨bs, hr, hn⟩ := reads_reps I hs hK ds (kvs.map (·.2)) ps (vs.map (·.2)) h2 q k2
        have rk := reads_keys (X := X) (h := s.heap) hk q2 k1.symm hp
        have l1 := keyPys_len q2
        have l2 := pyXs_len q
        have l3 := keysD_len' hk
        have l4 := h2.length
        rw [List.length_map] at l3 l4
        have z1 : (qs.zip ps).map (·.1) = qs := List.map_fst_zip (by omega)
        have z2 : (qs.zip ps).map (·.2) = ps := List.map_snd_zip (by omega)
        refine ⟨_, Reads.dict (kvs := qs.zip ps) (as := []) (bs := bs) ho hx.1 hd (by rw [z1]; exact rk) (by rw [z2, pairs_vals hp]; exact hr), fun z => ?_⟩
        rcases List.mem_cons.mp (show sysModules ∈ a :: bs from z) with z | z
        · exact (beq_eq_false_iff_ne.mp sy) z.symm
        · exact hn z
  | .obj _ _, v, p, u, h, e, r => by simp only [pyX] at e; cases e
  | .scr _, v, p, u, h, e, r => by simp only [pyX] at e; cases e
  | .cls _, v, p, u, h, e, r => by simp only [pyX] at e; cases e
  | .exn _ _ _, v, p, u, h, e, r => by simp only [pyX] at e; cases e
theorem reads_reps (I : Inv X pins σ H s) (hs : (X.K.lookup sysModules).isSome = true) (hK : w.K = X.K) : ∀ (ds : List D) (vs : List V) (ps : List PyData) (us : List Value), RepL w O H ds vs → pyXs ds = some ps → Vals vs us → ∃ as, ReadsAll s.heap us ps as ∧ sysModules ∉ as
  | [], vs, ps, us, h, e, r => by
    simp only [RepL] at h
    simp only [pyXs] at e
    cases e; subst h; cases r
    exact ⟨_, ReadsAll.nil, by simp⟩
  | d :: ds, vs, ps, us, h, e, r => by
    simp only [RepL] at h
    simp only [pyXs] at e
    obtain ⟨v, vs', rfl, h1, h2⟩ := h
    cases q : pyX d with
    | none => rw [q] at e; cases e
    | some p =>
      rw [q] at e
      simp only [Option.bind_some] at e
      cases q2 : pyXs ds with
      | none => rw [q2] at e; cases e
      | some ps' =>
        rw [q2] at e
        cases e
        cases r with
        | cons r1 r2 =>
          obtain ⟨as, x1, y1⟩ := reads_rep I hs hK d v p _ h1 q r1
          obtain ⟨bs, x2, y2⟩ := reads_reps I hs hK ds vs' ps' _ h2 q2 r2
          exact ⟨_, ReadsAll.cons x1 x2, fun z => (List.mem_append.mp z).elim y1 y2⟩
end
end
def reprX (x : D) : Option Vl := (pyX x).bind fun p => if p.showable = true ∧ p.depth < 64 ∧ p.shown.length ≤ sizeLine then some (dS p.shown) else none
def rReprX (K : PySem.W.Frag) : List V → Hp → VK → Prop := fun xs H Q => ∃ (w : Wd) (O : Av) (d : D) (p : PyData) (v : V), w.K = K ∧ xs = [v] ∧ Rep w O H d v ∧ pyX d = some p ∧ p.showable = true ∧ p.depth < 64 ∧ p.shown.length ≤ sizeLine ∧ Q (.str p.shown) H
theorem call_reprX {X : Cx} (hs : (X.K.lookup sysModules).isSome = true) (hgu : X.A.guards = some []) (hu : X.A.units + 64 < cLine) : CallR X (.builtin "repr") (rReprX X.K) := by
  intro pins s σ H xs us Q I r h
  obtain ⟨w, O, d, p, v, hK, rfl, hd, hp, h1, h2, h3, q⟩ := h
  obtain ⟨u, rfl, ru⟩ := vals1 r
  obtain ⟨as, rd, ns⟩ := reads_rep I hs hK d v p u hd hp ru
  have fin : ∀ (h' : Heap) (u : Tok) (tk : Nat), (∀ b o, s.heap.get? b = some o → h'.get? b = some o) → EP X pins σ Q (.str p.shown u) { s with heap := h', toks := tk } := fun h' u tk hk => ⟨.str _, H, I.kept hk, ⟨_, rfl⟩, q⟩
  cases rd with
  | none => exact PySem.P.repr_of_none (by simpa only [PyData.shown] using fin s.heap s.toks (s.toks + 1) fun _ _ e => e)
  | bool b => exact PySem.P.repr_of_bool (by simpa only [PyData.shown] using fin s.heap s.toks (s.toks + 1) fun _ _ e => e)
  | int i t => exact PySem.P.repr_of_int (by simpa [PyData.showable] using h1) (by simpa only [PyData.shown] using fin s.heap s.toks (s.toks + 1) fun _ _ e => e)
  | str z t => exact PySem.P.repr_of_str (by simpa only [PyData.shown] using fin s.heap s.toks (s.toks + 1) fun _ _ e => e) (by simpa only [PyData.shown] using h3)
  | list a1 a2 a3 a4 => exact repr_of_reads' (.list a1 a2 a3 a4) h1 (fun _ => ns) hgu (by omega) (fun _ _ e => e) fin h3
  | tuple a1 a2 a3 a4 => exact repr_of_reads' (.tuple a1 a2 a3 a4) h1 (fun _ => ns) hgu (by omega) (fun _ _ e => e) fin h3
  | dict a1 a2 a3 a4 a5 => exact repr_of_reads' (.dict a1 a2 a3 a4 a5) h1 (fun _ => ns) hgu (by omega) (fun _ _ e => e) fin h3
section
variable {w : Wd} {W : WX} {X : Cx} {pos p : Pos} {mr : MA} {e : Expr}
theorem pm_reprX {k : Nat} (hK : w.K = X.K) (hs : (w.K.lookup sysModules).isSome = true) (hgu : X.A.guards = some []) (hr : Room k X.A) (hg : Gl X "repr") (hm : X.mg "repr" = none) (ha : PMA X w W [e] mr) (he : starEach [e] X.env = (false, eval e X.env) :: starEach [] X.env := by rfl) : PM X w W (.Call (.Name "repr" p) [e] [] pos) (mCall (one1 reprX) mr) :=
  pm_callB (call_reprX (hK ▸ hs) hgu hr.units) (fun O H xs z vs Q dm e rs k => by
    obtain ⟨x, rfl, ez⟩ := one1_some e
    clear e
    obtain ⟨v, rfl, hv⟩ := repl1 rs
    unfold reprX at ez
    cases q : pyX x with
    | none => rw [q] at ez; cases ez
    | some py =>
      rw [q] at ez
      simp only [Option.bind_some] at ez
      split at ez
      · rename_i h
        cases ez
        exact ⟨w, O, x, py, v, hK, rfl, hv, q, h.1, h.2.1, h.2.2, k.str⟩
      · cases ez) hg hm (by decide +kernel) ha (by decide) (by decide) he
end
end PM

/-! try whose clauses know that the exception has no context; raise there; x, y, z = a, b, c -/
namespace PM
open PySem PySem.Spec PyProof.Rows L2
inductive HdM (X : Cx) (n : Str) : List ExceptHandler → List Cl → Prop
  | nil : HdM X n [] []
  | cons {x : Str} {q : Cl} {st : Stmt} {su : List Stmt} {np ps : Pos} {hs : List ExceptHandler} {l : List Cl} (nm : Names X x q.1)
      (ok : ∀ (a : Addr) (oe : Obj) (cls : Value) (d : Option Addr) (pn : List (Addr × Obj)), L2N.Zn cls d oe → (∃ vs, oe.data = .fields vs) → PSs (X.suite a ((a, oe) :: pn)) (st :: su) (q.2 a cls d)) (r : HdM X n hs l) :
      HdM X n (.ExceptHandler (some (.Name x np)) (some n) (st :: su) ps :: hs) (q :: l)
section
variable {X : Cx} {n : Str} {i : Nat} {body : List Stmt} {hd : ExceptHandler} {hs : List ExceptHandler} {l : List Cl} {pos : Pos} {tb : WX → TS}
theorem ps_tryM (es : X.stack = X.env :: X.outer) (ef : X.env.frame = some X.env.locals) (nd : X.N.Nodup) (ei : X.N[i]? = some n) (el : X.env.kindOf n = some .local)
    (hb : ∀ (W : WX) (pn : List (Addr × Obj)) (xe : Value → Shared → Prop), L2N.Takes (X.tr pn xe) W → PassesOwn (model X.prog X.w) X.A X.env xe → PSs (X.tr pn xe) body (tb W))
    (hh : HdM X n (hd :: hs) l) : PS X (.Try body (hd :: hs) [] [] pos) (fun D σ H => tb (wN X.K i D l) D σ H) := by
  refine ⟨fun pins s σ H D I wish => ?_⟩
  have xok := I.ok
  have frame : X.A.frames = some (X.env :: X.outer) := xok.frames.trans (congrArg some es)
  refine wpAny_Try_except (wpAny_mono ((hb (wN X.K i D l) (X.pn ++ pins) (fun er t1 => wpAny (model X.prog X.w) X.A (noteFrame er X.env) (fun _ t2 => wpAny (model X.prog X.w) X.A (setFlight er none) (fun _ t3 =>
    wpAny (model X.prog X.w) X.A (handleBy er X.env (hd :: hs)) (SP X pins D) X.xe t3) X.xe t2) X.xe t1) (fun u s' air => ?_) PassesOwn.looking).run [] s σ H D (I.toTry _) wish) (fun fl s1 sp => ?_) (fun _ _ z => z))
  · obtain ⟨a, B, sI, pins', σ1, H1, cls, d, rfl, J0, nb, up, sky, na, eos, ag, wi⟩ := air
    have J : Inv X pins σ1 H1 sI := J0.ofTry xok
    rw [es] at sky
    show wpAny (model X.prog X.w) X.A (noteFrame (.ref a) X.env) _ _ _
    refine L2N.Sky.land L2N.Zn.steady frame ef sky fun g3 fly up3 => ?_
    have J3 : Inv X pins σ1 H1 { s' with heap := g3 } := J.landed nb fly.1 (up.trans up3) eos ag
    obtain ⟨o3, v3, at3, z3, dt3⟩ := fly.there
    have nofr : a ∉ frs (X.env :: X.outer) := fun mem => by
      obtain ⟨_, o', e', nf⟩ := fly.2.2.1.mem mem
      rw [at3] at e'
      cases e'
      exact nf _ dt3
    have aL : a ≠ X.env.locals := fun z => nofr (List.mem_filterMap.mpr ⟨X.env, by simp, by rw [ef, z]⟩)
    have aF : a ∉ X.fs := fun mem => by
      obtain ⟨ev, hev, q⟩ := List.mem_filterMap.mp mem
      exact nofr (List.mem_filterMap.mpr ⟨ev, by simp [hev], q⟩)
    have S3 := J3.suite at3 dt3 na aL aF
    have each : ∀ {hs' : List ExceptHandler} {l' : List Cl}, HdM X n hs' l' → wN X.K i D l' cls d σ1 H1 → wpAny (model X.prog X.w) X.A (handleBy (.ref a) X.env hs') (SP X pins D) X.xe { s' with heap := g3 } := by
      intro hs' l' hk
      induction hk with
      | nil => exact fun z => z.elim
      | @cons x q st su np ps hs2 l2 nm ok r ih =>
        rintro ⟨b, eb, yes, no⟩
        refine wpAny_handleBy_cons (codeAny_handlers_test ?_) (by intro z; cases z)
        have typ : PySem.W.Looks (model X.prog X.w) g3 (typeOf (.ref a)) cls := fun _ _ _ _ k z => wpAny_typeOf_ref (k _ _ at3) (by rw [z3.1]; exact z)
        have met := PySem.W.exm_one (M := model X.prog X.w) (J3.kIn) typ eb
        have ask : ∀ {Q : Value → Shared → Prop} {E : Value → Shared → Prop}, Q q.1 { s' with heap := g3 } → wpAny (model X.prog X.w) (X.A.mark (some (.ref a))) (eval (.Name x np) X.env) Q E { s' with heap := g3 } := by
          intro Q E z
          obtain ⟨gl, dbg, em | ⟨em, ev, nn⟩⟩ := nm
          · exact ld_glob (X := X.suite a ((a, o3) :: (X.pn ++ pins))) S3 gl em z dbg
          · exact ld_blt (X := X.suite a ((a, o3) :: (X.pn ++ pins))) S3 gl em ev z nn dbg
        refine ask (met.here ?_)
        cases b with
        | false => exact ih (no rfl)
        | true =>
          refine codeAny_handlers_suite_as (HandSPX.lands_againZ fly fun g4 fly4 up4 => ?_)
          have J4 : Inv X pins σ1 H1 { s' with heap := g4 } := J.landed nb fly4.1 ((up.trans up3).trans up4) eos ag
          obtain ⟨o4, v4, at4, z4, dt4⟩ := fly4.there
          have S4 := J4.suite at4 dt4 na aL aF
          refine store_ok (X := X.suite a ((a, o4) :: (X.pn ++ pins))) (v := .ref a) S4 nd ei (.inl el) rfl (fun s5 S5 => ?_) (.inr el)
          refine wpAny_mono ((ok a o4 cls d (X.pn ++ pins) z4 ⟨_, dt4⟩).run [] s5 _ H1 _ S5 (yes rfl a na)) (fun fl s6 sp => ?_) (fun _ _ z => False.elim z)
          have over : ∀ {σ6 : L2.St} {H6 : Hp} {Q : Shared → Prop}, Inv (X.suite a ((a, o4) :: (X.pn ++ pins))) [] σ6 H6 s6 → (∀ s7, Inv X pins (σ6.set i none) H6 s7 → Q s7) →
              wpAny (model X.prog X.w) X.A (do bindName X.env n .none; unbindBehindTheSuite X.env n ps) (fun _ s7 => Q s7) X.xe s6 := fun S6 hq => gone_ok (S6.unsuite xok) nd ei el hq
          cases fl with
          | next =>
            obtain ⟨_, _, S6, z⟩ := sp
            exact over S6 fun _ J7 => ⟨_, _, J7, z⟩
          | brk =>
            obtain ⟨_, _, S6, z⟩ := sp
            exact over S6 fun _ J7 => ⟨_, _, J7, z⟩
          | cont =>
            obtain ⟨_, _, S6, z⟩ := sp
            exact over S6 fun _ J7 => ⟨_, _, J7, z⟩
          | ret u =>
            obtain ⟨_, _, _, S6, rr, z⟩ := sp
            exact over S6 fun _ J7 => ⟨_, _, _, J7, rr, z⟩
    exact each hh wi
  · cases fl with
    | next =>
      obtain ⟨_, _, K1, z⟩ := sp
      exact wpAny_execs_nil ⟨_, _, K1.ofTry xok, z⟩
    | brk =>
      obtain ⟨_, _, K1, z⟩ := sp
      exact ⟨_, _, K1.ofTry xok, z⟩
    | cont =>
      obtain ⟨_, _, K1, z⟩ := sp
      exact ⟨_, _, K1.ofTry xok, z⟩
    | ret u =>
      obtain ⟨_, _, _, K1, rr, z⟩ := sp
      exact ⟨_, _, _, K1.ofTry xok, rr, z⟩
end

section
open Builtin Builtin.ObjectAttr
variable {X : Cx} {C : Addr} {fld x : Str} {e : Expr} {te : TE} {p pos : Pos}
theorem pmk_supN (T : ErrK X.prog X.K C fld) (hm : X.mg "super" = none) (hr : Room 1 X.A) (hg : Gl X x) (gC : X.mg x = some (.ref C)) (he : PE X e te) (hdb : (x == ("__debug__" : Str)) = false := by decide)
    (hs : starEach [e] X.env = (false, eval e X.env) :: starEach [] X.env := by rfl) : L2N.PMk X (.Call (.Name x p) [e] [] pos) (tErr C fld te) := by
  intro pins s σ H Q I h
  obtain ⟨f, cc, cda, B, i, newId, bmB, b, qual, params, scope, S, hfl, KF, FB, ⟨B0, init0, bm0, F0, L0⟩, lets, iC, tI⟩ := T.ex
  obtain ⟨nm, q, N, bs, bm, sn, sub, ab, col, dd, k0, k1, k2, k3, k5, hC, hbm⟩ := S.cls
  refine wpAny_Call_Name_kw (ld_glob I hg gC ?_ hdb)
  refine PySem.W.callWith_K (h₀ := X.base) I.ok.mod.kin T.keep ?_ hs (by rfl)
  rw [hs]
  show wpAny _ _ (spliced ((false, eval e X.env) :: backTo pos (starEach [] X.env))) _ _ s
  refine Calls.spliced_cons (thn (he.run pins s σ H _ I h) fun u s1 ⟨v, H1, I1, r1, q1⟩ => Calls.spliced_nil ⟨I1.kIn, ?_⟩)
  show wpAny _ _ (call (.ref C) [u]) _ _ _
  obtain ⟨hp, g, dr, tk, os⟩ := s1
  have rm : Room 0 (X.A.under (.builtin "type.__call__" ⟨.ref C :: [u], []⟩)) := hr.make C [u] []
  have kk : ∀ c o, hp.get? c = some o → ((hp.push (PySem.W.kdv_tup [u])).push (HandSPX.excO C hp.objs.size)).get? c = some o := fun c o z => Heap.get?_push_of_some _ (Heap.get?_push_of_some _ z)
  have ha : ((hp.push (PySem.W.kdv_tup [u])).push (HandSPX.excO C hp.objs.size)).get? (hp.objs.size + 1) = some (HandSPX.excO C hp.objs.size) := by heap_get
  have hKa : X.K.lookup (hp.objs.size + 1) = none := by
    cases z : X.K.lookup (hp.objs.size + 1) with
    | none => rfl
    | some o =>
      have y := Heap.lt_size (I1.kIn _ _ z)
      exact absurd y (by show ¬ (hp.objs.size + 1 < hp.objs.size); omega)
  have up : ∀ c o, X.base.get? c = some o → hp.get? c = some o := I1.bk
  obtain ⟨mb, hb1, hb2⟩ := I1.mod.blt
  refine wpAny_call (call_new F0 ⟨(refsB_has B0 bm hbm).trans L0.hB, (refsB_has _ bm hbm).trans L0.hA, (refsB_has _ bm hbm).trans L0.hN⟩ (I1.kIn _ _ hC) (PySem.W.looks_findIn I1.kIn iC) (fun self => PySem.W.bind_fn I1.kIn self tI) (by show 1 ≤ sizeLine; rw [sizeLine_eq]; omega) ?_)
  refine run_sup S KF FB lets rm.depth hKa (I1.kIn.keeps kk) ((I1.mod.nolimit.keeps up).keeps kk) ((I1.mod.glob.keeps up).keeps kk) hm ((hb1.keeps up).keeps kk) hb2 ha fun h' tk' dx t1 k dn dne he' n1 => ⟨rfl, ?_⟩
  rw [hfl] at n1
  obtain ⟨G, gk, gn⟩ := restrict h' fun c => decide (c ≠ hp.objs.size + 1)
  have g1 : ∀ c, c ≠ hp.objs.size + 1 → G.get? c = h'.get? c := fun c hc => gk c (decide_eq_true hc)
  have g2 : G.get? (hp.objs.size + 1) = none := gn _ (decide_eq_false fun z => z rfl)
  have old : ∀ c o, hp.get? c = some o → G.get? c = some o := fun c o z => by
    have nc : c ≠ hp.objs.size + 1 := fun y => by
      have l := Heap.lt_size z
      rw [y] at l
      exact absurd l (Nat.not_lt.mpr (Nat.le_succ _))
    rw [g1 c nc]
    exact k c o nc (kk c o z)
  have szd : hp.objs.size ≤ dx := by
    have l : ((hp.push (PySem.W.kdv_tup [u])).push (HandSPX.excO C hp.objs.size)).objs.size ≤ dx := dn
    have l2 : hp.objs.size + 1 < ((hp.push (PySem.W.kdv_tup [u])).push (HandSPX.excO C hp.objs.size)).objs.size := Heap.lt_size ha
    exact Nat.le_trans (Nat.le_of_lt (Nat.lt_of_succ_lt l2)) l
  have hn : H1 dx = none := I1.hok.fresh szd
  have J : Inv X pins σ (upd H1 dx (.xd [(fld, v)])) ⟨G, g, dr, tk', os⟩ := I1.laid (t' := tk') (a := dx) (o := .xd [(fld, v)]) (h' := G) old szd ⟨_, n1.at fun o y => (g1 dx dne).trans y, fun y => by
    show RelO (List.lookup y [(fld, v)]) (if y = fld then some u else none)
    by_cases z : y = fld
    · subst z
      rw [if_pos rfl]
      simp [List.lookup]
      exact r1
    · rw [if_neg z]
      have z2 : (y == fld) = false := beq_eq_false_iff_ne.mpr z
      simp [List.lookup, z2]
      exact True.intro⟩
  refine ⟨hp.objs.size + 1, _, _, ⟨G, g, dr, tk', os⟩, _, .ref C, some dx, rfl, J, fun c o z => ?_, g2, he', ⟨rfl, rfl, fun vs ev => by cases ev; rfl⟩, rfl, rfl, ?_, rfl, I1.bare, raises_own T.exc T.typ, q1 dx hn⟩
  · by_cases nc : c = hp.objs.size + 1
    · have z : G.get? c = some o := z
      rw [nc, g2] at z
      cases z
    · exact (g1 c nc).symm.trans z
  · rw [upd_ne (Ne.symm dne)]
    exact I1.hok.fresh (Nat.le_succ _)
end
section
variable {w : Wd} {W : WX} {X : Cx} {c j : Nat} {x m0 fld : Str} {p p2 pos pos' : Pos} {B newId initId : String} {bmB : List Value} {e : Expr} {m : ME}
theorem pms_raiseN0 (hK : w.K = X.K) (tk : L2N.Takes X W) (F : ExcBaseFacts B newId initId bmB) (q : PySem.W.excIn w.K (w.cl c) bmB newId = true) (kC : PySem.W.keepIn w.K (.ref (w.cl c)) = true) (sb : PySem.W.subIn w.K (.ref (w.cl c)) (.type "BaseException") = some true) (ty : PySem.W.typeIn w.K (.ref (w.cl c)) = some (.type "type")) (hg : Gl X x) (gC : X.mg x = some (.ref (w.cl c))) (hc : X.calm = true := by rfl) (hdb : (x == ("__debug__" : Str)) = false := by decide) :
    PMS X w W (.Raise (some (.Call (.Name x p) [.Constant (.str m0) j p2] [] pos)) none pos') (fun ρ => .exc (.own c []) ρ) := by
  refine ⟨_, L2N.ps_raise hc tk (L2N.pmk_own F (hK ▸ q) gC (hK ▸ kC) (raises_own (hK ▸ sb) (hK ▸ ty)) hg hdb), fun F O ρ σ H E hw R hh => ?_⟩
  subst hw
  exact hh O σ H _ _ (Step.refl _ _) R ⟨rfl, rfl⟩
theorem pms_raiseN1 (tk : L2N.Takes X W) (T : ErrK X.prog X.K (w.cl c) fld) (hm : X.mg "super" = none) (hr : Room 1 X.A) (hg : Gl X x) (gC : X.mg x = some (.ref (w.cl c))) (he : PM X w W e m) (hc : X.calm = true := by rfl) (hdb : (x == ("__debug__" : Str)) = false := by decide)
    (hs : starEach [e] X.env = (false, eval e X.env) :: starEach [] X.env := by rfl) : PMS X w W (.Raise (some (.Call (.Name x p) [e] [] pos)) none pos') (mRaise c fld m) := by
  obtain ⟨te, pe, se⟩ := he
  refine ⟨_, L2N.ps_raise hc tk (pmk_supN T hm hr hg gC pe hdb hs), fun F O ρ σ H E hw R hh => ?_⟩
  refine se.bindS hw R hh fun y v ρ1 O1 H1 st1 R1 rv h1 d hd => ?_
  subst hw
  obtain ⟨O2, s2, R2, r2, s3⟩ := VlAt.release st1 R1 R.doh rv
  have g : Grow H1 (upd H1 d (.xd [(fld, v)])) := Grow.new hd
  refine h1 O2 σ _ _ _ (s3.trans g.step) (R2.grow g) ⟨rfl, d, [v], rfl, R2.fresh hd, upd_same, ?_⟩
  simp only [List.map_cons, List.map_nil, RepL]
  exact ⟨v, [], rfl, Rep.step g.step _ _ r2, rfl⟩
end
/-! ### x, y, z = a, b, c -/
def mPar3 (i j l : Nat) (mr : MA) : MS := fun ρ => (mr ρ).bind fun xs ρ1 => match xs with
  | [x, y, z] => nxt ((setV i x ρ1).bind fun ρ2 => (setV j y ρ2).bind fun ρ3 => setV l z ρ3)
  | _ => .stuck
theorem pms_par3 {w : Wd} {W : WX} {X : Cx} {pos : Pos} {a b c : Expr} {mr : MA} {i j l : Nat} {x y z : Str} {px py pz pt : Pos} {kt k2 pt2} (hc : X.calm = true) (hN : X.N.Nodup) (hi : X.N[i]? = some x) (hj : X.N[j]? = some y) (hl : X.N[l]? = some z) (hij : i ≠ j) (hil : i ≠ l) (hjl : j ≠ l)
    (hx : X.env.scope.names.lookup x = some .local) (hy : X.env.scope.names.lookup y = some .local) (hz : X.env.scope.names.lookup z = some .local) (ha : PMA X w W [a, b, c] mr)
    (hw : swappedStores [.Tuple [.Name x px, .Name y py, .Name z pz] kt pt] (.Tuple [a, b, c] k2 pt2) X.env = pure (some [x, y, z])) (hs : swapsWithSole [.Tuple [.Name x px, .Name y py, .Name z pz] kt pt] (.Tuple [a, b, c] k2 pt2) pos.line X.env = pure false := by rfl) :
    PMS X w W (.Assign [.Tuple [.Name x px, .Name y py, .Name z pz] kt pt] (.Tuple [a, b, c] k2 pt2) pos) (mPar3 i j l mr) := by
  obtain ⟨t, pa, sa⟩ := ha
  refine ⟨_, ps_par3 hc hN hi hj hl hij hil hjl hx hy hz pa hw hs, fun F O ρ σ H E hw R hh => ?_⟩
  subst hw
  refine sa.bindS rfl R hh fun xs vs ρ1 O1 H1 st1 R1 rs h1 => ?_
  split at h1
  · rename_i d1 d2 d3
    simp only [RepL] at rs
    obtain ⟨v, _, rfl, r1, u, _, rfl, r2, t, _, rfl, r3, rfl⟩ := rs
    cases q1 : setV i d1 ρ1 with
    | none => rw [q1] at h1; exact h1.elim
    | some ρ2 =>
      rw [q1] at h1
      have h1 : HoldS F W O1 H1 E (nxt ((setV j d2 ρ2).bind fun ρ3 => setV l d3 ρ3)) := h1
      cases q2 : setV j d2 ρ2 with
      | none => rw [q2] at h1; exact h1.elim
      | some ρ3 =>
        rw [q2] at h1
        have h1 : HoldS F W O1 H1 E (nxt (setV l d3 ρ3)) := h1
        cases q3 : setV l d3 ρ3 with
        | none => rw [q3] at h1; exact h1.elim
        | some ρ4 =>
          rw [q3] at h1
          exact ⟨v, u, t, rfl, h1 O1 _ H1 (Step.refl _ _) (setV_rel (setV_rel (setV_rel R1 r1 q1) r2 q2) r3 q3)⟩
  · exact h1.elim
end PM

/-! a def called with the exception that is handled -/
namespace PM
open PySem PySem.Spec PyProof.Rows L2 L2H HotX
/-- the same, with the exception at a under the number 99 -/
abbrev Wd.pin (w : Wd) (a : Addr) : Wd := ⟨w.K, fun n => if n = 99 then a else w.cl n⟩
/-- f(e), e the exception that is handled, of class D: the text z -/
structure FnE (P : Program) (wo : World) (K : PySem.W.Frag) (mg : Str → Option Value) (base : Heap) (k : Nat) (f : Addr) (fd : FuncData) (v : Str) (D : Addr) (z : Str) : Prop where
  run : ∀ (A : Around) (outer : List Env) (s : Shared) (H : Hp) (args : Args) (Q : VK) (E : XK) (p : Addr × Obj), RoomH k A → Hot1 A p → PinOk outer H s p → Zc (.ref D) none p.2 → Env0 P wo K mg base A outer s H → BindsTo s fd args [(v, .ref p.1)] → (∀ H', Grow H H' → Q (.str z) H') →
    codeAny (model P wo) A (.call (.ref f) args) (CR CX0 outer P wo H s Q E) s
section
variable {P : Program} {wo : World} {K : PySem.W.Frag} {mg : Str → Option Value} {base : Heap} {w : Wd} {x qual v z : Str} {st : Stmt} {f D : Addr} {fd : FuncData} {N : List Str} {k : Nat} {m : MS}
theorem fnE_of (F : Fun K x qual st f fd) (S : FnScope N [v] (defScope st)) (hN : 1 ≤ N.length)
    (hb : ∀ (cdv : Value) (A : Around) (outer : List Env) (s : Shared) (H : Hp) (E : XK) (p : Addr × Obj), Hot1 A p → Zc (.ref D) none p.2 → RoomH k (A.deeper (envOfC qual (defScope st) s.heap.objs.size f cdv)) → PMSs (cxH CX0 P wo K mg base N qual (defScope st) f cdv A outer s H E p) (w.pin p.1) W0 (defBody st) m)
    (hm : fnSem N.length 1 m none [.cls 99] = .ret (.str z, false) none) : FnE P wo K mg base (k + 1) f fd v D z := by
  obtain ⟨oc, od, kV, doc, pm, an, cdv, ct, osl, rfl, lk, hcd⟩ := F.ex
  refine ⟨fun A outer s H args Q E p hr hot pin hz e0 hbi hq => ?_⟩
  have KX : K.In s.heap := e0.mod.kin.keeps (fun c o y => (e0.bs c o y).1)
  have nl : s.heap.NoLimit := e0.mod.nolimit.keeps (fun c o y => (e0.bs c o y).1)
  have kinds : ∀ y ∈ ([(v, Value.ref p.1)] : List (Str × Value)), (defScope st).names.lookup y.1 = some .local ∨ ((defScope st).names.lookup y.1 = some .cell ∧ ((cellsFrom (s.heap.objs.size + 1) (defScope st).names []).lookup y.1).isSome = true) := fun y hy => by
    have ey : y = (v, Value.ref p.1) := by simpa using hy
    subst ey
    exact (S.par v (by simp)).imp id fun y => ⟨y, PySem.W.cellsFrom_some _ _ _ (.inl y)⟩
  refine codeAny_call_function hr.depth (KX _ _ lk) rfl S.co S.gen rfl (PySem.W.codeRec_of KX hcd) (hbi _ _ _ _ (wpAny_newFunctionEnv_cells S.kind kinds fun env ee s1 ic => ?_))
  subst ee
  refine ⟨nl.keeps ic.toInCall.keep, codeAny_func ?_⟩
  obtain ⟨t, pt, sim⟩ := hb cdv A outer s H E p hot hz (hr.deeper _)
  have I : Inv (cxH CX0 P wo K mg base N qual (defScope st) f cdv A outer s H E p) [] (L2.start N [.ref p.1]) H s1 := inv_startH S (us := [.ref p.1]) pin e0 rfl (.cons rfl .nil) ic
  have wish : t { nx := fun _ H' => Q .non H', rt := Q } (L2.start N [.ref p.1]) H := by
    refine body_ok sim (E := fun _ _ _ => False) (fun _ _ _ _ y => y.elim) hN ⟨fun _ => False, none, [.cls 99], fun _ y => y.elim, rfl, ?_, ?_⟩
    · show RepL (w.pin p.1) _ H [.cls 99] [.ref p.1]
      simp only [RepL, Rep]
      exact ⟨_, _, rfl, by rw [if_pos trivial], rfl⟩
    · rw [hm]
      refine ⟨rfl, fun H' u sy rf => ?_⟩
      have r1 : Rep (w.pin p.1) (fun _ => False) H' (.str z) u := rf.1
      simp only [Rep] at r1
      subst r1
      exact hq H' fun c o y => sy.kept c o (fun q => by cases q.1) y
  refine wpAny_mono (pt.run [] s1 (L2.start N [.ref p.1]) H _ I wish) (fun fl s' sp => ?_) fun _ _ y => y
  cases fl with
  | ret u =>
    obtain ⟨u1, σ1, H1, J, ru, q⟩ := sp
    exact ⟨u1, H1, J.os, J.bare, J.base, J.hok, ru, q⟩
  | next =>
    obtain ⟨σ1, H1, J, q⟩ := sp
    exact ⟨V.non, H1, J.os, J.bare, J.base, J.hok, (show RelV V.non Value.none from rfl), q⟩
  | brk =>
    obtain ⟨_, _, _, q⟩ := sp
    exact q.elim
  | cont =>
    obtain ⟨_, _, _, q⟩ := sp
    exact q.elim
end
section
variable {X : Cx} {k i : Nat} {f D a : Addr} {oe : Obj} {pn : List (Addr × Obj)} {fd : FuncData} {v x n z : Str} {q r pos : Pos}
/-- the call in the suite -/
theorem pe_callE (F : FnE X.prog X.w X.K X.mg X.base k f fd v D z) (hr : RoomH k X.A) (hz : L2N.Zn (.ref D) none oe) (hf : ∃ vs, oe.data = .fields vs) (hg : Gl X x) (hm : X.mg x = some (.ref f)) (hk : PySem.W.keepIn X.K (.ref f) = true) (hb : Binds X.K fd [v] []) (hi : X.N[i]? = some n) (hv : Vis X.env.scope n) (hn1 : (n == ("__debug__" : Str)) = false) (hn2 : (n == ("__classdict__" : Str)) = false) (hdb : (x == ("__debug__" : Str)) = false)
    (he : starEach [Expr.Name n r] X.env = (false, eval (.Name n r) X.env) :: starEach [] X.env) : PE (X.suite a ((a, oe) :: pn)) (.Call (.Name x q) [.Name n r] [] pos) (fun σ H Q => σ[i]? = some (some (.ref a)) ∧ ∀ H', Grow H H' → Q (.str z) H') := by
  refine ⟨fun pins s σ H Q I ⟨h0, h⟩ => ?_⟩
  have pa : PA (X.suite a ((a, oe) :: pn)) [.Name n r] (tCons (tVar i) tNil) := pa_cons (pe_var (X := X.suite a ((a, oe) :: pn)) hi hv hn1 hn2) pa_nil he
  refine wpAny_Call_Name_kw (ld_glob (X := X.suite a ((a, oe) :: pn)) I hg hm ?_ hdb)
  refine PySem.W.callWith_K (h₀ := X.base) I.ok.mod.kin hk (thn (pa.run pos pins s σ H (fun vs H1 => vs = [V.ref a] ∧ H1 = H) I ⟨_, h0, rfl, rfl⟩) fun us s1 ⟨vs, H1, I1, rv, ev, eH⟩ => ⟨I1.kIn, ?_⟩) he (by rfl)
  subst ev
  subst eH
  obtain ⟨u, rfl, ru⟩ := vals1 rv
  have eu : u = Value.ref a := ru
  subst eu
  obtain ⟨vs, hd⟩ := hf
  have P1 := I1.pin (a, oe) (List.mem_append_left _ List.mem_cons_self)
  have hpin : PinOk X.stack H1 s1 (a, oe) := ⟨P1.1, P1.2.1, fun mem => (List.mem_cons.mp (I1.stkSub a mem)).elim P1.2.2.1 P1.2.2.2.1, P1.2.2.2.2⟩
  have b := hb s1 [.ref a] I1.kIn rfl
  refine wpAny_call (codeAny_mono (F.run (X.A.mark (some (.ref a))) X.stack s1 H1 ⟨[.ref a], []⟩ Q E0 (a, oe) ⟨hr.dp, hr.un⟩ ⟨rfl, vs, hd, hz.2.2 vs hd⟩ hpin ⟨hz.1, hz.2.1⟩ I1.env0 b h) fun rr s' cr => ?_)
  cases rr with
  | error e => exact cr.elim
  | ok fl =>
    cases fl with
    | ret u => exact I1.after cr
    | next => exact cr.elim
    | brk => exact cr.elim
    | cont => exact cr.elim
end
end PM

/-! try: .. / except A as e: return z0 + f(e) / except B as e: return z1 + repr(e.f1) / except C as e: return z2 + repr(e.f2) -/
namespace PM
open PySem PySem.Spec PyProof.Rows L2 L2H HotX
open PySem.W (exmOne findIn)
/-- one reading of statements for a meaning -/
def tsOf (w : Wd) (W : WX) (m : MS) : TS := fun E σ H => ∃ (F : Fr) (O : Av) (ρ : En), F.w = w ∧ Rel F O ρ σ H ∧ HoldS F W O H E (m ρ)
theorem PMSs.ps {X : Cx} {w : Wd} {W : WX} {b : List Stmt} {m : MS} (h : PMSs X w W b m) : PSs X b (tsOf w W m) := by
  obtain ⟨t, p, s⟩ := h
  exact ⟨fun pins s0 σ H D I ⟨F, O, ρ, hw, R, hh⟩ => p.run pins s0 σ H D I (s F O ρ σ H D hw R hh)⟩
def repTxt (z : Str) (d : D) : Option Str := match reprX d with
  | some (.str s, false) => if z.length + s.length ≤ sizeLine then some (z ++ s) else none
  | _ => none
def mTxt (i : Nat) (o : Option Str) (ρ1 : En) : Rs Fl := match o with
  | some s => if i < ρ1.length then .ok (.rt (.str s, false)) ρ1 else .stuck
  | none => .stuck
def mTryK (mb : MS) (i c0 : Nat) (zz : Str) (c1 : Nat) (f1 z1 : Str) (c2 : Nat) (f2 z2 : Str) : MS := fun ρ => match mb ρ with
  | .exc (.own k []) ρ1 => if k = c0 then mTxt i (some zz) ρ1 else .stuck
  | .exc (.own k [(f, d)]) ρ1 => if k = c1 ∧ f = f1 then mTxt i (repTxt z1 d) ρ1 else if k = c2 ∧ f = f2 then mTxt i (repTxt z2 d) ρ1 else .stuck
  | _ => .stuck
theorem mTxt_hold {G : Fr} {O : Av} {H : Hp} {E : Ends} {i : Nat} {o : Option Str} {ρ1 : En} (h : HoldS G W0 O H E (mTxt i o ρ1)) : ∃ s, o = some s ∧ i < ρ1.length ∧ ∀ O' σ' H', Step O H O' H' → Rel G O' ρ1 σ' H' → E.rt (.str s) H' := by
  unfold mTxt at h
  split at h
  · rename_i s
    split at h
    · rename_i hi
      exact ⟨s, rfl, hi, fun O' σ' H' st R => h O' σ' H' _ st R (show Rep G.w O' H' (.str s) (.str s) by simp only [Rep])⟩
    · exact h.elim
  · exact h.elim
/-- the suite with the call -/
def tSu0 (i : Nat) (C : Addr) (z0 zz : Str) (a : Addr) (cls : Value) (d : Option Addr) : TS := fun E σ H => cls = .ref C ∧ d = none ∧ σ[i]? = some (some (.ref a)) ∧ z0.length + zz.length ≤ sizeLine ∧ ∀ H', Grow H H' → E.rt (.str (z0 ++ zz)) H'
/-- a suite with repr -/
def tSu1 (K : PySem.W.Frag) (i : Nat) (C : Addr) (f z : Str) (a : Addr) (cls : Value) (d : Option Addr) : TS := fun E σ H => cls = .ref C ∧ ∃ (dd : Addr) (fs : List (Str × V)) (v : V) (w : Wd) (O : Av) (x : D) (s : Str), d = some dd ∧ σ[i]? = some (some (.ref a)) ∧ H dd = some (.xd fs) ∧ fs.lookup f = some v ∧ w.K = K ∧ Rep w O H x v ∧ repTxt z x = some s ∧ E.rt (.str s) H
section
variable {X : Cx} {i k : Nat} {C a f0 : Addr} {oe : Obj} {cls : Value} {d : Option Addr} {pn : List (Addr × Obj)} {f z z0 zz n x v : Str} {fd : FuncData} {q0 q1 q2 q3 q4 q5 q6 q7 : Pos} {j : Nat}
theorem su0_ok (F : FnE X.prog X.w X.K X.mg X.base k f0 fd v C zz) (hr : RoomH k X.A) (hz : L2N.Zn cls d oe) (hf : ∃ vs, oe.data = .fields vs) (hg : Gl X x) (hm : X.mg x = some (.ref f0)) (hk : PySem.W.keepIn X.K (.ref f0) = true) (hb : Binds X.K fd [v] []) (hi : X.N[i]? = some n) (hv : Vis X.env.scope n) (hn1 : (n == ("__debug__" : Str)) = false) (hn2 : (n == ("__classdict__" : Str)) = false) (hdb : (x == ("__debug__" : Str)) = false)
    (he : starEach [Expr.Name n q1] X.env = (false, eval (.Name n q1) X.env) :: starEach [] X.env) : PSs (X.suite a ((a, oe) :: pn)) [.Return (some (.BinOp (.Constant (.str z0) j q0) .Add (.Call (.Name x q2) [.Name n q1] [] q3) q4)) q5] (tSu0 i C z0 zz a cls d) := by
  refine ⟨fun pins s σ H E I ⟨ec, ed, h0, hl, h⟩ => ?_⟩
  subst ec
  subst ed
  have pc := pe_callE (a := a) (pn := pn) (q := q2) (pos := q3) F hr hz hf hg hm hk hb hi hv hn1 hn2 hdb he
  exact (pss_one (ps_ret (pos := q5) (pe_op (pos := q4) op_add_str (pe_str (X := X.suite a ((a, oe) :: pn)) (pos := q0) (j := j)) pc))).run pins s σ H E I ⟨h0, fun H' g => ⟨z0, zz, rfl, rfl, hl, h H' g⟩⟩
theorem su1_ok (hs : (X.K.lookup sysModules).isSome = true) (hgu : X.A.guards = some []) (hu : X.A.units + 64 < cLine) (T : XfC X.K C) (hno : findIn X.K (.ref C) f = some none) (hz : L2N.Zn cls d oe) (hf : ∃ vs, oe.data = .fields vs) (hgr : Gl X "repr") (hmr : X.mg "repr" = none) (hi : X.N[i]? = some n) (hv : Vis X.env.scope n) (hn1 : (n == ("__debug__" : Str)) = false) (hn2 : (n == ("__classdict__" : Str)) = false)
    (hab : attributeBase (.Name n q1) f X.env (eval (.Name n q1) X.env) = eval (.Name n q1) X.env) (he : starEach [Expr.Attribute (.Name n q1) f q6] X.env = (false, eval (.Attribute (.Name n q1) f q6) X.env) :: starEach [] X.env) : PSs (X.suite a ((a, oe) :: pn)) [.Return (some (.BinOp (.Constant (.str z) j q0) .Add (.Call (.Name "repr" q2) [.Attribute (.Name n q1) f q6] [] q3) q4)) q5] (tSu1 X.K i C f z a cls d) := by
  refine ⟨fun pins s σ H E I ⟨ec, dd, fs, u, w, O, y, t, ed, h0, h1, h2, hK, h3, h4, h⟩ => ?_⟩
  subst ec
  subst ed
  have px : PE (X.suite a ((a, oe) :: pn)) (.Attribute (.Name n q1) f q6) (tXf a (.ref C) (some dd) C f (tVar i)) := pe_xf T hno hz.zc hf (pe_var (X := X.suite a ((a, oe) :: pn)) hi hv hn1 hn2) hab
  have pr : PE (X.suite a ((a, oe) :: pn)) (.Call (.Name "repr" q2) [.Attribute (.Name n q1) f q6] [] q3) (tCB (rReprX X.K) (tCons (tXf a (.ref C) (some dd) C f (tVar i)) tNil)) := pe_callB (X := X.suite a ((a, oe) :: pn)) (call_reprX (X := X.suite a ((a, oe) :: pn)) hs hgu hu) hgr hmr (by decide +kernel) (pa_cons px pa_nil he) (by decide) (by decide) he (by rfl)
  refine (pss_one (ps_ret (pos := q5) (pe_op (pos := q4) op_add_str (pe_str (X := X.suite a ((a, oe) :: pn)) (pos := q0) (j := j)) pr))).run pins s σ H E I ?_
  unfold repTxt reprX at h4
  cases e1 : pyX y with
  | none => rw [e1] at h4; cases h4
  | some p =>
    rw [e1] at h4
    simp only [Option.bind_some] at h4
    split at h4
    · rename_i s0 e2
      split at h4
      · rename_i hl
        cases h4
        split at e2
        · rename_i hp
          cases e2
          exact ⟨.ref a, h0, rfl, rfl, dd, fs, u, rfl, h1, h2, w, O, y, p, u, hK, rfl, h3, e1, hp.1, hp.2.1, hp.2.2, z, p.shown, rfl, rfl, hl, h⟩
        · cases e2
      · cases h4
    · cases h4
end
section
variable {w : Wd} {X : Cx} {i k c0 c1 c2 : Nat} {CS f0 : Addr} {fd : FuncData} {n x v z0 zz f1 z1 f2 z2 x0 x1 x2 : Str} {body : List Stmt} {mb : MS} {j0 j1 j2 : Nat}
  {a0 a1 a2 a3 a4 a5 a6 a7 b0 b1 b2 b3 b4 b5 b6 b7 b8 d0 d1 d2 d3 d4 d5 d6 d7 d8 pl : Pos}
theorem pms_tryK (hK : w.K = X.K) (hb : ∀ (W : WX) (pn : List (Addr × Obj)) (xe : Value → Shared → Prop), L2N.Takes (X.tr pn xe) W → PassesOwn (model X.prog X.w) X.A X.env xe → PMSs (X.tr pn xe) w W body mb)
    (F : FnE X.prog X.w X.K X.mg X.base k f0 fd v (w.cl c0) zz) (hr : RoomH k X.A) (hgf : Gl X x) (hmf : X.mg x = some (.ref f0)) (hkf : PySem.W.keepIn X.K (.ref f0) = true) (hbf : Binds X.K fd [v] [])
    (hs : (w.K.lookup sysModules).isSome = true) (hgu : X.A.guards = some []) (hu : X.A.units + 64 < cLine) (hgr : Gl X "repr") (hmr : X.mg "repr" = none)
    (e0 : exmOne w.K (.ref (w.cl c0)) (.ref CS) = some true) (e10 : exmOne w.K (.ref (w.cl c1)) (.ref CS) = some false) (e11 : exmOne w.K (.ref (w.cl c1)) (.ref (w.cl c1)) = some true) (e20 : exmOne w.K (.ref (w.cl c2)) (.ref CS) = some false) (e21 : exmOne w.K (.ref (w.cl c2)) (.ref (w.cl c1)) = some false) (e22 : exmOne w.K (.ref (w.cl c2)) (.ref (w.cl c2)) = some true)
    (N0 : Names X x0 (.ref CS)) (N1 : Names X x1 (.ref (w.cl c1))) (N2 : Names X x2 (.ref (w.cl c2))) (T1 : XfC w.K (w.cl c1)) (o1 : findIn w.K (.ref (w.cl c1)) f1 = some none) (T2 : XfC w.K (w.cl c2)) (o2 : findIn w.K (.ref (w.cl c2)) f2 = some none) (nd : X.N.Nodup) (ei : X.N[i]? = some n) (el : X.env.kindOf n = some .local) (hl0 : z0.length + zz.length ≤ sizeLine)
    (es : X.stack = X.env :: X.outer := by rfl) (ef : X.env.frame = some X.env.locals := by rfl) (hv : Vis X.env.scope n := by first | exact Or.inl rfl | exact Or.inr (Or.inl rfl) | exact Or.inr (Or.inr rfl)) (hdb : (x == ("__debug__" : Str)) = false := by decide) (hn1 : (n == ("__debug__" : Str)) = false := by decide) (hn2 : (n == ("__classdict__" : Str)) = false := by decide)
    (he0 : starEach [Expr.Name n a1] X.env = (false, eval (.Name n a1) X.env) :: starEach [] X.env := by rfl) (hab1 : attributeBase (.Name n b1) f1 X.env (eval (.Name n b1) X.env) = eval (.Name n b1) X.env := by rfl) (he1 : starEach [Expr.Attribute (.Name n b1) f1 b6] X.env = (false, eval (.Attribute (.Name n b1) f1 b6) X.env) :: starEach [] X.env := by rfl)
    (hab2 : attributeBase (.Name n d1) f2 X.env (eval (.Name n d1) X.env) = eval (.Name n d1) X.env := by rfl) (he2 : starEach [Expr.Attribute (.Name n d1) f2 d6] X.env = (false, eval (.Attribute (.Name n d1) f2 d6) X.env) :: starEach [] X.env := by rfl) :
    PMS X w W0 (.Try body [.ExceptHandler (some (.Name x0 a6)) (some n) [.Return (some (.BinOp (.Constant (.str z0) j0 a0) .Add (.Call (.Name x a2) [.Name n a1] [] a3) a4)) a5] a7,
      .ExceptHandler (some (.Name x1 b7)) (some n) [.Return (some (.BinOp (.Constant (.str z1) j1 b0) .Add (.Call (.Name "repr" b2) [.Attribute (.Name n b1) f1 b6] [] b3) b4)) b5] b8,
      .ExceptHandler (some (.Name x2 d7)) (some n) [.Return (some (.BinOp (.Constant (.str z2) j2 d0) .Add (.Call (.Name "repr" d2) [.Attribute (.Name n d1) f2 d6] [] d3) d4)) d5] d8] [] [] pl) (mTryK mb i c0 (z0 ++ zz) c1 f1 z1 c2 f2 z2) := by
  refine ⟨_, ps_tryM (tb := fun W => tsOf w W mb) (l := [(.ref CS, tSu0 i (w.cl c0) z0 zz), (.ref (w.cl c1), tSu1 X.K i (w.cl c1) f1 z1), (.ref (w.cl c2), tSu1 X.K i (w.cl c2) f2 z2)]) es ef nd ei el (fun W pn xe tk po => (hb W pn xe tk po).ps) ?_, fun G O ρ σ H E hw R hh => ?_⟩
  · rw [hK] at T1 T2 o1 o2 hs
    refine .cons N0 (fun a oe cls d pn hz hf => su0_ok F hr hz hf hgf hmf hkf hbf ei hv hn1 hn2 hdb he0) (.cons N1 (fun a oe cls d pn hz hf => su1_ok hs hgu hu T1 o1 hz hf hgr hmr ei hv hn1 hn2 hab1 he1) (.cons N2 (fun a oe cls d pn hz hf => su1_ok hs hgu hu T2 o2 hz hf hgr hmr ei hv hn1 hn2 hab2 he2) .nil))
  · subst hw
    refine ⟨G, O, ρ, rfl, R, ?_⟩
    unfold mTryK at hh
    cases q : mb ρ with
    | ok f ρ1 => rw [q] at hh; exact hh.elim
    | stuck => rw [q] at hh; exact hh.elim
    | exc xc ρ1 =>
      rw [q] at hh
      cases xc with
      | ty nn => exact hh.elim
      | own kk fs =>
        cases fs with
        | nil =>
          have h2 : HoldS G W0 O H E (if kk = c0 then mTxt i (some (z0 ++ zz)) ρ1 else .stuck) := hh
          clear hh q
          by_cases ek : kk = c0
          · rw [if_pos ek] at h2
            subst ek
            obtain ⟨s, es, hi, fin⟩ := mTxt_hold h2
            cases es
            intro O' σ' H' cls d st R' xa
            obtain ⟨ec, ed⟩ := xa
            subst ec
            have ed : d = none := ed
            subst ed
            refine ⟨true, hK ▸ e0, fun _ a na => ⟨rfl, rfl, by rw [List.getElem?_set_self (R'.len ▸ hi)], hl0, fun H'' g => fin O' σ' H'' (st.trans g.step) (R'.grow g)⟩, (fun z => by cases z)⟩
          · rw [if_neg ek] at h2
            exact h2.elim
        | cons pq fs =>
          cases fs with
          | cons _ _ => exact hh.elim
          | nil =>
            obtain ⟨ff, dd⟩ := pq
            have h2 : HoldS G W0 O H E (if kk = c1 ∧ ff = f1 then mTxt i (repTxt z1 dd) ρ1 else if kk = c2 ∧ ff = f2 then mTxt i (repTxt z2 dd) ρ1 else .stuck) := hh
            clear hh q
            intro O' σ' H' cls d st R' xa
            obtain ⟨ecl, a, vs, ed, na, hxa, rl⟩ := xa
            subst ecl
            subst ed
            simp only [List.map_cons, List.map_nil, RepL] at rl
            obtain ⟨vv, _, rfl, rr, rfl⟩ := rl
            by_cases k1 : kk = c1 ∧ ff = f1
            · rw [if_pos k1] at h2
              obtain ⟨rfl, rfl⟩ := k1
              obtain ⟨s, es, hi, fin⟩ := mTxt_hold h2
              refine ⟨false, hK ▸ e10, (fun z => by cases z), fun _ => ⟨true, hK ▸ e11, fun _ a' _ => ⟨rfl, a, _, vv, G.w, O', dd, s, rfl, by rw [List.getElem?_set_self (R'.len ▸ hi)], hxa, by simp [List.lookup], hK, rr, es, fin O' σ' H' st R'⟩, (fun z => by cases z)⟩⟩
            · rw [if_neg k1] at h2
              by_cases k2 : kk = c2 ∧ ff = f2
              · rw [if_pos k2] at h2
                obtain ⟨rfl, rfl⟩ := k2
                obtain ⟨s, es, hi, fin⟩ := mTxt_hold h2
                refine ⟨false, hK ▸ e20, (fun z => by cases z), fun _ => ⟨false, hK ▸ e21, (fun z => by cases z), fun _ => ⟨true, hK ▸ e22, fun _ a' _ => ⟨rfl, a, _, vv, G.w, O', dd, s, rfl, by rw [List.getElem?_set_self (R'.len ▸ hi)], hxa, by simp [List.lookup], hK, rr, es, fin O' σ' H' st R'⟩, (fun z => by cases z)⟩⟩⟩
              · rw [if_neg k2] at h2
                exact h2.elim
end
end PM

/-! tables of classes of errors; KeyError as a base -/
namespace PM
open PySem PySem.Spec PyProof.Rows L2
open PySem.W (Frag findIn typeIn subIn keepIn excIn exmOne kitOne)
def kitsX (names : List Str) (u : String ⊕ Str) (tab : List Bool) : Chk := fun K => (names.zip tab).all fun p => kitB (.inr p.1) u p.2 K
theorem kitsX_ok {names : List Str} {u : String ⊕ Str} {tab : List Bool} {K : Frag} (h : kitsX names u tab K = true) {c : Nat} {b : Bool} (hl : tab.length = names.length) (e : tab[c]? = some b) : kitB (.inr (names.getD c "")) u b K = true := by
  have lt : c < tab.length := by
    rcases Nat.lt_or_ge c tab.length with y | y
    · exact y
    · rw [List.getElem?_eq_none y] at e
      cases e
  have e2 : names[c]? = some (names.getD c "") := by
    rw [List.getD, List.getElem?_eq_getElem (show c < names.length by omega)]
    rfl
  have m : (names.getD c "", b) ∈ names.zip tab := List.mem_of_getElem? (i := c) (by rw [List.getElem?_zip_eq_some]; exact ⟨e2, e⟩)
  exact List.all_eq_true.mp h _ m
def xcksB (names : List Str) : Chk := fun K => names.all fun C => xckB C K
theorem xcksB_ok {names : List Str} {K : Frag} (h : xcksB names K = true) {c : Nat} (hc : c < names.length) : XcK K (He.ga K (names.getD c "")) := by
  refine xckB_ok (List.all_eq_true.mp h _ ?_)
  rw [List.getD, List.getElem?_eq_getElem hc]
  exact List.getElem_mem hc
def exmVB (C D : Str) (b : Bool) : Chk := fun K => obB (exmOne K (.ref (He.ga K C)) (.ref (He.ga K D))) (some b)
theorem exmVB_ok {K : Frag} {C D : Str} {b : Bool} (h : exmVB C D b K = true) : exmOne K (.ref (He.ga K C)) (.ref (He.ga K D)) = some b := of_decide_eq_true h
def sysB : Chk := fun K => (K.lookup sysModules).isSome
theorem pin_mem (w : Wd) (p : Addr × Obj) : ((w.pin p.1).cl 99, p.2) ∈ [p] := by
  show ((if (99 : Nat) = 99 then p.1 else w.cl 99), p.2) ∈ [p]
  rw [if_pos rfl]
  exact List.mem_singleton.mpr rfl
end PM
namespace PM
open PySem PySem.Spec PyProof.Rows L2
theorem ini_KeyError : IniF "KeyError" "KeyError.__init__" := ⟨by decide +kernel, entryFor_alias (id' := "BaseException.__init__") (by rw [fastTable_eq_tree]; kernel_rfl) (by first | rfl | decide +kernel) (by decide +kernel) (by rw [fastTable_eq_tree]; kernel_rfl), by kernel_rfl, by kernel_rfl, by decide +kernel⟩
theorem lets_KeyError : ∀ y : Value, refuseLoop y "__setattr__" [.type "KeyError", .type "LookupError", .type "Exception", .type "BaseException", .type "object"] = pure () := fun y => by kernel_rfl
theorem kxs_KeyError : PySem.W.KxsFacts "KeyError" "KeyError.__init__" := ⟨(by show builtinType _ = _; rw [builtinType_eq_fast]; kernel_rfl), (by first | kernel_rfl | rfl)⟩
theorem newF_of {B newId i : String} {bmB : List Value} (F : ExcBaseFacts B newId i bmB) : ∃ (B0 init0 : String) (bm0 : List Value), ExcBaseFacts B0 newId init0 bm0 ∧ LineF B0 bmB := ⟨B, i, bmB, F, F.hasB, F.noAttr, F.noName⟩
theorem new_KeyError : ∃ (B0 init0 : String) (bm0 : List Value), ExcBaseFacts B0 "LookupError.__new__" init0 bm0 ∧ LineF B0 [.type "KeyError", .type "LookupError", .type "Exception", .type "BaseException", .type "object"] := ⟨_, _, _, PySem.F.excBase_LookupError, by decide +kernel, by decide +kernel, by decide +kernel⟩
end PM

/-! a text once or not at all; an int as a key or value of a display -/
namespace PM
open PySem PySem.Spec PyProof.Rows L2
def mulB : D → D → Option Vl
  | .str x, .int k => if x.length ≤ 1000 then (if k = 0 then some (dS Str.empty) else if k = 1 then some (dS x) else none) else none
  | _, _ => none
def rMulB : R2 := fun x y H Q => ∃ u k, x = .str u ∧ y = .int k ∧ u.length ≤ 1000 ∧ ((k = 0 ∧ Q (.str Str.empty) H) ∨ (k = 1 ∧ Q (.str u) H))
section
variable {w : Wd} {W : WX} {X : Cx} {pos p : Pos} {a b e : Expr} {ma mb : ME} {mr : MA}
theorem op_mulB : OpR X (binaryOp .Mult) rMulB := by
  intro pins s σ H x y v u Q I rx ry h
  obtain ⟨z, k, rfl, rfl, h4, h⟩ := h
  obtain ⟨t, rfl⟩ := rx
  obtain ⟨t', rfl⟩ := ry
  rcases h with ⟨rfl, q⟩ | ⟨rfl, q⟩
  · refine P.mul_str (by simp) (fun c _ => absurd c (by decide)) (fun c _ => absurd c (by decide)) ?_
    rw [if_pos (by decide)]
    exact ⟨by decide, .str _, H, I.tok _, ⟨_, rfl⟩, q⟩
  · refine P.mul_str (by simp) (fun _ c => ?_) (fun _ c => ?_) ?_
    · simp at c
    · simp at c
    · rw [if_neg (by decide)]
      have e1 : (((1 : Int) == 1) || z.length == 0) = true := by simp
      rw [e1]
      simp only [if_true]
      exact ⟨.str _, H, I, ⟨_, rfl⟩, q⟩
theorem pm_mulB (ha : PM X w W a ma) (hb : PM X w W b mb) : PM X w W (.BinOp a .Mult b pos) (mOp2 mulB ma mb) := pm_bin op_mulB (fun O H x y z vx vy Q dm e hx hy k => by
  cases x <;> cases y <;> simp only [mulB] at e <;> first | (cases e; done) | skip
  rename_i u n
  simp only [Rep] at hx hy
  split at e
  · rename_i hl
    split at e
    · rename_i h0
      cases e
      exact ⟨u, n, hx, hy, hl, .inl ⟨h0, k.str⟩⟩
    · split at e
      · rename_i h1
        cases e
        exact ⟨u, n, hx, hy, hl, .inr ⟨h1, k.str⟩⟩
      · cases e
  · cases e) ha hb
end
end PM

/-! whole numbers in {k: v}; a place in a table -/
namespace PM
open PySem PySem.Spec PyProof.Rows L2
theorem still_int {w : Wd} {X : Cx} {i : Int} {j : Nat} {pos : Pos} : Still X w (.Constant (.int i) j pos) (fC (.int i)) := by
  refine ⟨_, pe_int, fun F O ρ σ H Q d hw R e q => ?_⟩
  cases e
  exact q _ (by simp only [Rep])
theorem tab_lt {α : Type} {t : List α} {n c : Nat} {b : α} (hl : t.length = n) (e : t[c]? = some b) : c < n := by
  rcases Nat.lt_or_ge c t.length with y | y
  · omega
  · rw [List.getElem?_eq_none y] at e
    cases e
def asS (g : Addr → Option Obj) (n : Nat) : List Addr := asM g n ++ [sysModules]
def obsSG (n : Nat) (cs : List Chk) (fn : List DfM) (fc : List DfC) (ts : List He.Tab) (g : Addr → Option Obj) : AlM := obsX cs fn fc ts (He.frG g (asS g n))
/-- as hookX; the table of the modules stands in what is seen -/
def hookS (n : Nat) (cs : List Chk) (fn : List DfM) (fc : List DfC) (ts : List He.Tab) : PySem.W.Hook where
  α := AlM
  obs := fun s => obsSG n cs fn fc ts s.heap.get?
  val := fun w => valX fn fc ts w
  says := fun w h => ∃ K : PySem.W.Frag, K.In h ∧ SaysX cs fn fc ts w K
  of := fun _ _ e => ⟨_, He.frG_in, e⟩
  keeps := fun _ _ _ ⟨K, hK, c⟩ k => ⟨K, PySem.W.Frag.In.keeps hK k, c⟩
theorem obsSG_eq {n : Nat} {cs : List Chk} {fn : List DfM} {fc : List DfC} {ts : List He.Tab} {g : Addr → Option Obj} {s : Shared} (h : ∀ a, g a = s.heap.get? a) : obsSG n cs fn fc ts g = (hookS n cs fn fc ts).obs s := by
  have e : g = s.heap.get? := funext h
  rw [e] <;> rfl
end PM

namespace PM.G
open PySem PySem.Spec L2 PM
def tabX_ArithmeticError : List Bool := [false, false, false, false, true, true, false, false, false, false, false, false, false, false, false, false, false, false, false, false]
def tabX_IndexError : List Bool := [false, false, true, false, false, false, false, false, false, false, false, false, false, false, false, false, false, false, false, false]
def tabX_InvalidBuilding : List Bool := [false, false, false, false, false, false, false, false, false, false, false, true, false, false, false, false, false, false, false, false]
def tabX_InvalidChoices : List Bool := [false, false, false, false, false, false, false, false, false, false, false, false, false, false, true, false, false, false, false, false]
def tabX_InvalidNumber : List Bool := [false, false, true, false, false, false, false, false, false, false, false, false, false, false, false, false, false, false, false, false]
def tabX_InvalidOperation : List Bool := [false, false, false, false, false, false, false, false, false, false, false, false, false, false, false, false, false, false, false, true]
def tabX_InvalidPath : List Bool := [false, false, false, false, false, false, false, false, false, false, false, false, true, false, false, false, false, false, false, false]
def tabX_InvalidPiece : List Bool := [false, false, false, false, false, false, false, false, false, false, true, false, false, false, false, false, false, false, false, false]
def tabX_InvalidPlace : List Bool := [false, false, false, false, false, false, false, true, false, false, false, false, false, false, false, false, false, false, false, false]
def tabX_InvalidRecord : List Bool := [false, false, false, false, false, false, false, false, false, false, false, false, false, false, false, false, true, false, false, false]
def tabX_InvalidSaying : List Bool := [false, false, false, false, false, false, false, false, false, false, false, false, false, true, false, false, false, false, false, false]
def tabX_InvalidSchedule : List Bool := [false, false, false, false, false, false, false, false, false, false, false, false, false, false, false, true, false, false, false, false]
def tabX_InvalidSurrounding : List Bool := [false, false, false, false, false, false, false, false, false, false, false, false, false, false, false, false, false, false, true, false]
def tabX_InvalidTable : List Bool := [false, false, false, false, false, false, false, false, false, false, false, false, false, false, false, false, false, true, false, false]
def tabX_InvalidTie : List Bool := [false, false, false, false, false, false, false, false, true, false, false, false, false, false, false, false, false, false, false, false]
def tabX_InvalidWeb : List Bool := [false, false, false, false, false, false, false, false, false, true, false, false, false, false, false, false, false, false, false, false]
def tabX_KeyError : List Bool := [false, true, false, false, false, false, false, false, false, false, false, false, false, false, false, false, false, false, false, false]
def tabX_LookupError : List Bool := [false, true, true, false, false, false, false, false, false, false, false, false, false, false, false, false, false, false, false, false]
def tabX_NothingToUndo : List Bool := [false, false, false, true, false, false, false, false, false, false, false, false, false, false, false, false, false, false, false, false]
def tabX_OverflowError : List Bool := [false, false, false, false, true, false, false, false, false, false, false, false, false, false, false, false, false, false, false, false]
def tabX_ParseError : List Bool := [true, false, false, false, false, false, false, false, false, false, false, false, false, false, false, false, false, false, false, false]
def tabX_Refused : List Bool := [false, false, false, false, false, true, false, false, false, false, false, false, false, false, false, false, false, false, false, false]
def tabX_RuntimeError : List Bool := [false, false, false, true, false, false, false, false, false, false, false, false, false, false, false, false, false, false, false, false]
def tabX_SeamError : List Bool := [true, false, false, false, false, false, true, true, true, true, true, true, true, true, true, true, true, true, true, true]
def tabX_TooMany : List Bool := [false, false, false, false, true, false, false, false, false, false, false, false, false, false, false, false, false, false, false, false]
def tabX_UnknownName : List Bool := [false, true, false, false, false, false, false, false, false, false, false, false, false, false, false, false, false, false, false, false]
def tabX_ValueError : List Bool := [true, false, false, false, false, false, true, true, true, true, true, true, true, true, true, true, true, true, true, true]
def xnames : List Str := ["ParseError", "UnknownName", "InvalidNumber", "NothingToUndo", "TooMany", "Refused", "SeamError", "InvalidPlace", "InvalidTie", "InvalidWeb", "InvalidPiece", "InvalidBuilding", "InvalidPath", "InvalidSaying", "InvalidChoices", "InvalidSchedule", "InvalidRecord", "InvalidTable", "InvalidSurrounding", "InvalidOperation"]
def m_l_dice : MS :=
    (mSeq (mAsg 2 (mIf (mTest (mOp2 ltI (mVar 1) (mCall (one1 lenD) (mCons (mVar 0) mNil)))) (mCall (one1 intD) (mCons (mOp2 ixD (mVar 0) (mVar 1)) mNil)) (mOp2 addD (mOp2 mulD (mC (.int 61)) (mVar 1)) (mC (.int 17)))))
    (mSeq (mAsg 3 (mOp2 modD (mCall (two1 maxD) (mCons (mC (.int 0)) (mCons (mOp2 subD (mCall (one1 absD) (mCons (mVar 2) mNil)) (mOp2 powD (mC (.int 10)) (mC (.int 16)))) mNil))) (mOp2 mulD (mOp2 powD (mC (.int 10)) (mC (.int 60))) (mOp2 powD (mC (.int 10)) (mC (.int 60))))))
    (mRet (mLst (mCons (mVar 3) (mCons (mOp2 addD (mOp2 addD (mOp2 addD (mOp2 mulD (mOp2 modD (mCall (one1 absD) (mCons (mVar 2) mNil)) (mC (.int 1152921504606846869))) (mC (.int 43))) (mOp2 mulD (mC (.int 811)) (mVar 1))) (mOp2 mulD (mC (.int 29)) (mCall (one1 intD) (mCons (mOp2 ltI (mVar 2) (mC (.int 0))) mNil)))) (mC (.int 5))) (mCons (mC (.int 0)) mNil)))))))
def fn_l_dice : Fn := noX (fnSem 4 2 m_l_dice)
def m_l_made_all : MS :=
    (mSeq (mAsg 0 (mLst (mCons (mExn0 7) (mCons (mExn0 8) (mCons (mExn0 9) (mCons (mExn0 10) (mCons (mExn0 11) mNil)))))))
    (mSeq (mAsg 0 (mOp2 addD (mVar 0) (mLst (mCons (mExn0 12) (mCons (mExn0 13) (mCons (mExn0 14) (mCons (mExn0 15) mNil)))))))
    (mSeq (mAsg 0 (mOp2 addD (mVar 0) (mLst (mCons (mExn0 16) (mCons (mExn0 17) (mCons (mExn0 18) mNil))))))
    (mRet (mOp2 addD (mVar 0) (mLst (mCons (mExn0 19) mNil)))))))
def fn_l_made_all : Fn := noX (fnSem 1 0 m_l_made_all)
def m_l_letters_of : MS :=
    (mSeq (mAsg 1 (mOp2 addD (mOp2 mulB (mC (.str "a")) (mCall (one1 intD) (mCons (mOp1 (isXD fun c => tabX_InvalidPlace[c]?) (mVar 0)) mNil))) (mOp2 mulB (mC (.str "b")) (mCall (one1 intD) (mCons (mOp1 (isXD fun c => tabX_InvalidTie[c]?) (mVar 0)) mNil)))))
    (mSeq (mAsg 1 (mOp2 addD (mOp2 addD (mVar 1) (mOp2 mulB (mC (.str "c")) (mCall (one1 intD) (mCons (mOp1 (isXD fun c => tabX_InvalidWeb[c]?) (mVar 0)) mNil)))) (mOp2 mulB (mC (.str "d")) (mCall (one1 intD) (mCons (mOp1 (isXD fun c => tabX_InvalidPiece[c]?) (mVar 0)) mNil)))))
    (mSeq (mAsg 1 (mOp2 addD (mOp2 addD (mVar 1) (mOp2 mulB (mC (.str "e")) (mCall (one1 intD) (mCons (mOp1 (isXD fun c => tabX_InvalidBuilding[c]?) (mVar 0)) mNil)))) (mOp2 mulB (mC (.str "f")) (mCall (one1 intD) (mCons (mOp1 (isXD fun c => tabX_InvalidPath[c]?) (mVar 0)) mNil)))))
    (mSeq (mAsg 1 (mOp2 addD (mOp2 addD (mVar 1) (mOp2 mulB (mC (.str "g")) (mCall (one1 intD) (mCons (mOp1 (isXD fun c => tabX_InvalidSaying[c]?) (mVar 0)) mNil)))) (mOp2 mulB (mC (.str "h")) (mCall (one1 intD) (mCons (mOp1 (isXD fun c => tabX_InvalidChoices[c]?) (mVar 0)) mNil)))))
    (mSeq (mAsg 1 (mOp2 addD (mOp2 addD (mVar 1) (mOp2 mulB (mC (.str "i")) (mCall (one1 intD) (mCons (mOp1 (isXD fun c => tabX_InvalidSchedule[c]?) (mVar 0)) mNil)))) (mOp2 mulB (mC (.str "j")) (mCall (one1 intD) (mCons (mOp1 (isXD fun c => tabX_InvalidRecord[c]?) (mVar 0)) mNil)))))
    (mSeq (mAsg 1 (mOp2 addD (mOp2 addD (mVar 1) (mOp2 mulB (mC (.str "k")) (mCall (one1 intD) (mCons (mOp1 (isXD fun c => tabX_InvalidTable[c]?) (mVar 0)) mNil)))) (mOp2 mulB (mC (.str "l")) (mCall (one1 intD) (mCons (mOp1 (isXD fun c => tabX_InvalidSurrounding[c]?) (mVar 0)) mNil)))))
    (mRet (mOp2 addD (mVar 1) (mOp2 mulB (mC (.str "m")) (mCall (one1 intD) (mCons (mOp1 (isXD fun c => tabX_InvalidOperation[c]?) (mVar 0)) mNil)))))))))))
def fn_l_letters_of : Fn := noX (fnSem 2 1 m_l_letters_of)
def m_l_kinds_of : MS :=
    (mSeq (mAsg 1 (mOp2 addD (mOp2 mulB (mC (.str "P")) (mCall (one1 intD) (mCons (mOp1 (isXD fun c => tabX_ParseError[c]?) (mVar 0)) mNil))) (mOp2 mulB (mC (.str "U")) (mCall (one1 intD) (mCons (mOp1 (isXD fun c => tabX_UnknownName[c]?) (mVar 0)) mNil)))))
    (mSeq (mAsg 1 (mOp2 addD (mOp2 addD (mVar 1) (mOp2 mulB (mC (.str "N")) (mCall (one1 intD) (mCons (mOp1 (isXD fun c => tabX_InvalidNumber[c]?) (mVar 0)) mNil)))) (mOp2 mulB (mC (.str "Z")) (mCall (one1 intD) (mCons (mOp1 (isXD fun c => tabX_NothingToUndo[c]?) (mVar 0)) mNil)))))
    (mSeq (mAsg 1 (mOp2 addD (mOp2 addD (mVar 1) (mOp2 mulB (mC (.str "M")) (mCall (one1 intD) (mCons (mOp1 (isXD fun c => tabX_TooMany[c]?) (mVar 0)) mNil)))) (mOp2 mulB (mC (.str "R")) (mCall (one1 intD) (mCons (mOp1 (isXD fun c => tabX_Refused[c]?) (mVar 0)) mNil)))))
    (mSeq (mAsg 1 (mOp2 addD (mOp2 addD (mVar 1) (mOp2 mulB (mC (.str " seam")) (mCall (one1 intD) (mCons (mOp1 (isXD fun c => tabX_SeamError[c]?) (mVar 0)) mNil)))) (mOp2 mulB (mC (.str " value")) (mCall (one1 intD) (mCons (mOp1 (isXD fun c => tabX_ValueError[c]?) (mVar 0)) mNil)))))
    (mSeq (mAsg 1 (mOp2 addD (mOp2 addD (mVar 1) (mOp2 mulB (mC (.str " key")) (mCall (one1 intD) (mCons (mOp1 (isXD fun c => tabX_KeyError[c]?) (mVar 0)) mNil)))) (mOp2 mulB (mC (.str " index")) (mCall (one1 intD) (mCons (mOp1 (isXD fun c => tabX_IndexError[c]?) (mVar 0)) mNil)))))
    (mSeq (mAsg 1 (mOp2 addD (mVar 1) (mOp2 mulB (mC (.str " lookup")) (mCall (one1 intD) (mCons (mOp1 (isXD fun c => tabX_LookupError[c]?) (mVar 0)) mNil)))))
    (mSeq (mAsg 1 (mOp2 addD (mVar 1) (mOp2 mulB (mC (.str " runtime")) (mCall (one1 intD) (mCons (mOp1 (isXD fun c => tabX_RuntimeError[c]?) (mVar 0)) mNil)))))
    (mSeq (mAsg 1 (mOp2 addD (mVar 1) (mOp2 mulB (mC (.str " overflow")) (mCall (one1 intD) (mCons (mOp1 (isXD fun c => tabX_OverflowError[c]?) (mVar 0)) mNil)))))
    (mRet (mOp2 addD (mVar 1) (mOp2 mulB (mC (.str " arithmetic")) (mCall (one1 intD) (mCons (mOp1 (isXD fun c => tabX_ArithmeticError[c]?) (mVar 0)) mNil)))))))))))))
def fn_l_kinds_of : Fn := noX (fnSem 2 1 m_l_kinds_of)
def m_l_all_of : MS :=
    (mRet (mOp2 addD (mCallV fn_l_letters_of (mCons (mVar 0) mNil)) (mCallV fn_l_kinds_of (mCons (mVar 0) mNil))))
def fn_l_all_of : Fn := noX (fnSem 1 1 m_l_all_of)
def m_l_kept : MS :=
    (mSeq (mPar3 3 4 5 (mCons (mExn1 0 "number" (mVar 1)) (mCons (mExn1 1 "name" (mVar 0)) (mCons (mExn1 2 "value" (mVar 0)) mNil))))
    (mSeq (mPar3 6 7 8 (mCons (mExn1 3 "many" (mVar 0)) (mCons (mExn1 4 "limit" (mVar 0)) (mCons (mExn1 5 "pledge" (mVar 0)) mNil))))
    (mSeq (mAsg 2 (mLst (mCons (mTup (mCons (mCallV fn_l_all_of (mCons (mVar 3) mNil)) (mCons (mOp1 (xfldD 0 "number") (mVar 3)) mNil))) (mCons (mTup (mCons (mCallV fn_l_all_of (mCons (mVar 4) mNil)) (mCons (mOp1 (xfldD 1 "name") (mVar 4)) mNil))) mNil))))
    (mSeq (mAsg 2 (mOp2 addD (mVar 2) (mLst (mCons (mTup (mCons (mCallV fn_l_all_of (mCons (mVar 5) mNil)) (mCons (mOp1 (xfldD 2 "value") (mVar 5)) mNil))) (mCons (mTup (mCons (mCallV fn_l_all_of (mCons (mVar 6) mNil)) (mCons (mOp1 (xfldD 3 "many") (mVar 6)) mNil))) mNil)))))
    (mRet (mOp2 addD (mVar 2) (mLst (mCons (mTup (mCons (mCallV fn_l_all_of (mCons (mVar 7) mNil)) (mCons (mOp1 (xfldD 4 "limit") (mVar 7)) mNil))) (mCons (mTup (mCons (mCallV fn_l_all_of (mCons (mVar 8) mNil)) (mCons (mOp1 (xfldD 5 "pledge") (mVar 8)) mNil))) mNil)))))))))
def fn_l_kept : Fn := noX (fnSem 9 2 m_l_kept)
def m_h_l_letters_of : MS :=
    (mSeq (mAsg 1 (mOp2 addD (mOp2 mulB (mC (.str "a")) (mCall (one1 intD) (mCons (mOp1 (isPD false) (mVar 0)) mNil))) (mOp2 mulB (mC (.str "b")) (mCall (one1 intD) (mCons (mOp1 (isPD false) (mVar 0)) mNil)))))
    (mSeq (mAsg 1 (mOp2 addD (mOp2 addD (mVar 1) (mOp2 mulB (mC (.str "c")) (mCall (one1 intD) (mCons (mOp1 (isPD false) (mVar 0)) mNil)))) (mOp2 mulB (mC (.str "d")) (mCall (one1 intD) (mCons (mOp1 (isPD false) (mVar 0)) mNil)))))
    (mSeq (mAsg 1 (mOp2 addD (mOp2 addD (mVar 1) (mOp2 mulB (mC (.str "e")) (mCall (one1 intD) (mCons (mOp1 (isPD false) (mVar 0)) mNil)))) (mOp2 mulB (mC (.str "f")) (mCall (one1 intD) (mCons (mOp1 (isPD false) (mVar 0)) mNil)))))
    (mSeq (mAsg 1 (mOp2 addD (mOp2 addD (mVar 1) (mOp2 mulB (mC (.str "g")) (mCall (one1 intD) (mCons (mOp1 (isPD false) (mVar 0)) mNil)))) (mOp2 mulB (mC (.str "h")) (mCall (one1 intD) (mCons (mOp1 (isPD false) (mVar 0)) mNil)))))
    (mSeq (mAsg 1 (mOp2 addD (mOp2 addD (mVar 1) (mOp2 mulB (mC (.str "i")) (mCall (one1 intD) (mCons (mOp1 (isPD false) (mVar 0)) mNil)))) (mOp2 mulB (mC (.str "j")) (mCall (one1 intD) (mCons (mOp1 (isPD true) (mVar 0)) mNil)))))
    (mSeq (mAsg 1 (mOp2 addD (mOp2 addD (mVar 1) (mOp2 mulB (mC (.str "k")) (mCall (one1 intD) (mCons (mOp1 (isPD false) (mVar 0)) mNil)))) (mOp2 mulB (mC (.str "l")) (mCall (one1 intD) (mCons (mOp1 (isPD false) (mVar 0)) mNil)))))
    (mRet (mOp2 addD (mVar 1) (mOp2 mulB (mC (.str "m")) (mCall (one1 intD) (mCons (mOp1 (isPD false) (mVar 0)) mNil)))))))))))
def fn_h_l_letters_of : Fn := (fnSem 2 1 m_h_l_letters_of)
def m_l_caught : MS :=
    (mTryK (mSeq (mIfS (mTest (mOp2 eqD (mVar 1) (mC (.int 0)))) (mRaise0 16) mNext)
    (mSeq (mIfS (mTest (mOp2 eqD (mVar 1) (mC (.int 1)))) (mRaise 5 "pledge" (mVar 0)) mNext)
    (mRaise 4 "limit" (mVar 0)))) 2 16 ("base " ++ "j") 5 "pledge" "refused " 4 "limit" "many ")
def fn_l_caught : Fn := noX (fnSem 3 2 m_l_caught)
def c_l_right_0 : ME :=
    (mLc (mIt itL (mCallV fn_l_made_all mNil)) [6] (gN 6) mYes (mCallV fn_l_all_of (mCons (mVar 6) mNil)))
def c_l_right_1 : ME :=
    (mLc (mIt itS (mVar 2)) [7] (gN 7) mYes (mOp2 addD (mVar 7) (mC (.str " seam value"))))
def c_l_right_2 : ME :=
    (mLc (mItA rng1 (mCons (mC (.int 3)) mNil)) [5] (gN 5) mYes (mCallV fn_l_caught (mCons (mVar 0) (mCons (mVar 5) mNil))))
def m_l_right : MS :=
    (mSeq (mAsg 2 (mC (.str "abcdefghijklm")))
    (mSeq (mIfS (mTest (mOp2 neD c_l_right_0 c_l_right_1)) (mRet (mC (.bl false))) mNext)
    (mSeq (mAsg 3 (mLst (mCons (mTup (mCons (mC (.str "P seam value")) (mCons (mVar 1) mNil))) (mCons (mTup (mCons (mC (.str "U key lookup")) (mCons (mVar 0) mNil))) (mCons (mTup (mCons (mC (.str "N index lookup")) (mCons (mVar 0) mNil))) (mCons (mTup (mCons (mC (.str "Z runtime")) (mCons (mVar 0) mNil))) mNil))))))
    (mSeq (mAsg 3 (mOp2 addD (mVar 3) (mLst (mCons (mTup (mCons (mC (.str "M overflow arithmetic")) (mCons (mVar 0) mNil))) (mCons (mTup (mCons (mC (.str "R arithmetic")) (mCons (mVar 0) mNil))) mNil)))))
    (mSeq (mIfS (mOr (mTest (mOp2 neD (mCall (one1 reprX) (mCons (mCallV fn_l_kept (mCons (mVar 0) (mCons (mVar 1) mNil))) mNil)) (mCall (one1 reprX) (mCons (mVar 3) mNil)))) (mTest (mOp2 neD (mCallV fn_l_all_of (mCons (mExn0 6) mNil)) (mC (.str " seam value"))))) (mRet (mC (.bl false))) mNext)
    (mSeq (mAsg 4 c_l_right_2)
    (mRet (mOp2 eqD (mVar 4) (mLst (mCons (mC (.str "base j")) (mCons (mOp2 addD (mC (.str "refused ")) (mCall (one1 reprX) (mCons (mVar 0) mNil))) (mCons (mOp2 addD (mC (.str "many ")) (mCall (one1 reprX) (mCons (mVar 0) mNil))) mNil))))))))))))
def fn_l_right : Fn := noX (fnSem 8 2 m_l_right)
def m_l_roll : MS :=
    (mSeq (mIfS (mTest (mOp2 gtI (mItemO 0 (mC (.int 0))) (mC (.int 0)))) (mSeq (mAsg 4 (mOp2 modD (mCall (one1 intD) (mCons (mItemO 0 (mC (.int 0))) mNil)) (mVar 1)))
    (mSeq (mSetItem 0 (mC (.int 0)) (mOp2 divD (mItemO 0 (mC (.int 0))) (mVar 1)))
    (mRet (mVar 4)))) mNext)
    (mSeq (mSetItem 0 (mC (.int 2)) (mOp2 addD (mItemO 0 (mC (.int 2))) (mC (.int 1))))
    (mSeq (mAsg 2 (mOp2 modD (mCall (one1 intD) (mCons (mOp2 addD (mItemO 0 (mC (.int 1))) (mOp2 mulD (mC (.int 49979687)) (mItemO 0 (mC (.int 2))))) mNil)) (mC (.int 2305843009213693669))))
    (mSeq (mAsg 3 (mOp2 addD (mOp2 mulD (mOp2 modD (mCall (one1 intD) (mCons (mOp2 addD (mOp2 mulD (mVar 2) (mVar 2)) (mOp2 mulD (mC (.int 89)) (mItemO 0 (mC (.int 2))))) mNil)) (mC (.int 2305843009213693907))) (mC (.int 7368791))) (mVar 2)))
    (mRet (mOp2 modD (mCall (one1 intD) (mCons (mOp2 divD (mVar 3) (mC (.int 65536))) mNil)) (mVar 1)))))))
def fn_l_roll : Fn := noX (fnSem 5 2 m_l_roll)
def m_l_pick : MS :=
    (mRet (mOp2 ixD (mVar 1) (mCallD fn_l_roll 0 (mCons (mCall (one1 lenD) (mCons (mVar 1) mNil)) mNil))))
def fn_l_pick : Fn := noX (fnSem 2 2 m_l_pick)
def p_lawX_0 : MS :=
    (mFor (mItA rng1 (mCons (mCall (two1 maxD) (mCons (mC (.int 1)) (mCons (mCall (two1 minD) (mCons (mC (.int 2)) (mCons (mCall (one1 lenD) (mCons (mVar 0) mNil)) mNil))) mNil))) mNil)) (gN 1) (mSeq (mAsgO 2 (mCallV fn_l_dice (mCons (mVar 0) (mCons (mVar 1) mNil))))
    (mSeq (mAsg 3 (mLst (mCons (mC .non) (mCons (mC (.bl true)) (mCons (mC (.int 0)) (mCons (mC (.str "7")) (mCons (mC (.str "")) (mCons (mTup (mCons (mC (.int 4)) (mCons (mC (.int 6)) mNil))) (mCons (mLst (mCons (mC (.int 7)) mNil)) (mCons (mDisp (fCons (fC (.int 7)) (fC (.int 7)) fNil)) (mCons (mTup (mCons (mTup mNil) (mCons (mTup (mCons (mC (.str "a")) (mCons (mC (.int 1)) mNil))) mNil))) (mCons (mC (.str "tie a b")) (mCons (mOp2 powD (mC (.int 10)) (mC (.int 40))) (mCons (mTup (mCons (mC (.str "holds")) (mCons (mC (.str "x")) mNil))) mNil))))))))))))))
    (mIfS (mNot (mTest (mCallV fn_l_right (mCons (mCallD fn_l_pick 2 (mCons (mVar 3) mNil)) (mCons (mCallD fn_l_pick 2 (mCons (mLst (mCons (mC .non) (mCons (mC (.int 0)) (mCons (mC (.int 3)) (mCons (mOp2 powD (mC (.int 10)) (mC (.int 30))) mNil))))) mNil)) mNil))))) (mRet (mC (.bl false))) mNext))))
def m_lawX : MS :=
    (mSeq p_lawX_0
    (mRet (mC (.bl true))))
def fn_lawX : Fn := noX (fnSem 4 1 m_lawX)
end PM.G

namespace PM.G
open PySem PySem.Spec L2 PM
theorem hotv_l_letters_of : fnSem 2 1 m_h_l_letters_of none [.cls 99] = .ret (.str "j", false) none := by kernel_rfl
end PM.G

/-! printed by gen.py from the defs of the law: what each is worth, and why -/
namespace PM.G
open PySem PySem.Spec PyProof.Rows L2 PM
def top (i : Nat) : Stmt := PySem.Challenge.pw_seamsayings_k01_errors_and_what_they_kee.main.body.getD i (.Pass ⟨0, 0, 0, 0⟩)
def inCls (st : Stmt) (j : Nat) : Stmt := match st with
  | .ClassDef _ _ _ b _ _ _ _ _ _ _ => b.getD j (.Pass ⟨0, 0, 0, 0⟩)
  | _ => .Pass ⟨0, 0, 0, 0⟩
abbrev s_l_dice : Stmt := top 22
abbrev s_l_made_all : Stmt := top 25
abbrev s_l_letters_of : Stmt := top 26
abbrev s_l_kinds_of : Stmt := top 27
abbrev s_l_all_of : Stmt := top 28
abbrev s_l_kept : Stmt := top 29
abbrev s_l_caught : Stmt := top 30
abbrev s_l_right : Stmt := top 31
abbrev s_l_roll : Stmt := top 23
abbrev s_l_pick : Stmt := top 24
abbrev s_lawX : Stmt := top 32
/-- what the top must have written -/
structure Tx (K : PySem.W.Frag) (mg : Str → Option Value) (wo : World) (w : Wd) : Prop where
  hK : w.K = K
  cok : ClsOk w 0
  n_ArithmeticError : mg "ArithmeticError" = none
  n_IndexError : mg "IndexError" = none
  n_KeyError : mg "KeyError" = none
  n_LookupError : mg "LookupError" = none
  n_OverflowError : mg "OverflowError" = none
  n_RuntimeError : mg "RuntimeError" = none
  n_ValueError : mg "ValueError" = none
  n_abs : mg "abs" = none
  n_int : mg "int" = none
  n_isinstance : mg "isinstance" = none
  n_len : mg "len" = none
  n_max : mg "max" = none
  n_min : mg "min" = none
  n_range : mg "range" = none
  n_repr : mg "repr" = none
  c_InvalidBuilding : mg "InvalidBuilding" = some (.ref (w.cl 11))
  c_InvalidChoices : mg "InvalidChoices" = some (.ref (w.cl 14))
  c_InvalidNumber : mg "InvalidNumber" = some (.ref (w.cl 2))
  c_InvalidOperation : mg "InvalidOperation" = some (.ref (w.cl 19))
  c_InvalidPath : mg "InvalidPath" = some (.ref (w.cl 12))
  c_InvalidPiece : mg "InvalidPiece" = some (.ref (w.cl 10))
  c_InvalidPlace : mg "InvalidPlace" = some (.ref (w.cl 7))
  c_InvalidRecord : mg "InvalidRecord" = some (.ref (w.cl 16))
  c_InvalidSaying : mg "InvalidSaying" = some (.ref (w.cl 13))
  c_InvalidSchedule : mg "InvalidSchedule" = some (.ref (w.cl 15))
  c_InvalidSurrounding : mg "InvalidSurrounding" = some (.ref (w.cl 18))
  c_InvalidTable : mg "InvalidTable" = some (.ref (w.cl 17))
  c_InvalidTie : mg "InvalidTie" = some (.ref (w.cl 8))
  c_InvalidWeb : mg "InvalidWeb" = some (.ref (w.cl 9))
  c_NothingToUndo : mg "NothingToUndo" = some (.ref (w.cl 3))
  c_ParseError : mg "ParseError" = some (.ref (w.cl 0))
  c_Refused : mg "Refused" = some (.ref (w.cl 5))
  c_SeamError : mg "SeamError" = some (.ref (w.cl 6))
  c_TooMany : mg "TooMany" = some (.ref (w.cl 4))
  c_UnknownName : mg "UnknownName" = some (.ref (w.cl 1))
  n_super : mg "super" = none
  k_ParseError : ClK w.K (w.cl 0) "number"
  k_UnknownName : ClK w.K (w.cl 1) "name"
  k_InvalidNumber : ClK w.K (w.cl 2) "value"
  k_NothingToUndo : ClK w.K (w.cl 3) "many"
  k_TooMany : ClK w.K (w.cl 4) "limit"
  k_Refused : ClK w.K (w.cl 5) "pledge"
  xi_ArithmeticError : ∀ c b, tabX_ArithmeticError[c]? = some b → XcK w.K (w.cl c) ∧ PySem.W.kitOne w.K (.ref (w.cl c)) (.type "ArithmeticError") = some b
  xi_IndexError : ∀ c b, tabX_IndexError[c]? = some b → XcK w.K (w.cl c) ∧ PySem.W.kitOne w.K (.ref (w.cl c)) (.type "IndexError") = some b
  xi_InvalidBuilding : ∀ c b, tabX_InvalidBuilding[c]? = some b → XcK w.K (w.cl c) ∧ PySem.W.kitOne w.K (.ref (w.cl c)) (.ref (w.cl 11)) = some b
  xi_InvalidChoices : ∀ c b, tabX_InvalidChoices[c]? = some b → XcK w.K (w.cl c) ∧ PySem.W.kitOne w.K (.ref (w.cl c)) (.ref (w.cl 14)) = some b
  xi_InvalidNumber : ∀ c b, tabX_InvalidNumber[c]? = some b → XcK w.K (w.cl c) ∧ PySem.W.kitOne w.K (.ref (w.cl c)) (.ref (w.cl 2)) = some b
  xi_InvalidOperation : ∀ c b, tabX_InvalidOperation[c]? = some b → XcK w.K (w.cl c) ∧ PySem.W.kitOne w.K (.ref (w.cl c)) (.ref (w.cl 19)) = some b
  xi_InvalidPath : ∀ c b, tabX_InvalidPath[c]? = some b → XcK w.K (w.cl c) ∧ PySem.W.kitOne w.K (.ref (w.cl c)) (.ref (w.cl 12)) = some b
  xi_InvalidPiece : ∀ c b, tabX_InvalidPiece[c]? = some b → XcK w.K (w.cl c) ∧ PySem.W.kitOne w.K (.ref (w.cl c)) (.ref (w.cl 10)) = some b
  xi_InvalidPlace : ∀ c b, tabX_InvalidPlace[c]? = some b → XcK w.K (w.cl c) ∧ PySem.W.kitOne w.K (.ref (w.cl c)) (.ref (w.cl 7)) = some b
  xi_InvalidRecord : ∀ c b, tabX_InvalidRecord[c]? = some b → XcK w.K (w.cl c) ∧ PySem.W.kitOne w.K (.ref (w.cl c)) (.ref (w.cl 16)) = some b
  xi_InvalidSaying : ∀ c b, tabX_InvalidSaying[c]? = some b → XcK w.K (w.cl c) ∧ PySem.W.kitOne w.K (.ref (w.cl c)) (.ref (w.cl 13)) = some b
  xi_InvalidSchedule : ∀ c b, tabX_InvalidSchedule[c]? = some b → XcK w.K (w.cl c) ∧ PySem.W.kitOne w.K (.ref (w.cl c)) (.ref (w.cl 15)) = some b
  xi_InvalidSurrounding : ∀ c b, tabX_InvalidSurrounding[c]? = some b → XcK w.K (w.cl c) ∧ PySem.W.kitOne w.K (.ref (w.cl c)) (.ref (w.cl 18)) = some b
  xi_InvalidTable : ∀ c b, tabX_InvalidTable[c]? = some b → XcK w.K (w.cl c) ∧ PySem.W.kitOne w.K (.ref (w.cl c)) (.ref (w.cl 17)) = some b
  xi_InvalidTie : ∀ c b, tabX_InvalidTie[c]? = some b → XcK w.K (w.cl c) ∧ PySem.W.kitOne w.K (.ref (w.cl c)) (.ref (w.cl 8)) = some b
  xi_InvalidWeb : ∀ c b, tabX_InvalidWeb[c]? = some b → XcK w.K (w.cl c) ∧ PySem.W.kitOne w.K (.ref (w.cl c)) (.ref (w.cl 9)) = some b
  xi_KeyError : ∀ c b, tabX_KeyError[c]? = some b → XcK w.K (w.cl c) ∧ PySem.W.kitOne w.K (.ref (w.cl c)) (.type "KeyError") = some b
  xi_LookupError : ∀ c b, tabX_LookupError[c]? = some b → XcK w.K (w.cl c) ∧ PySem.W.kitOne w.K (.ref (w.cl c)) (.type "LookupError") = some b
  xi_NothingToUndo : ∀ c b, tabX_NothingToUndo[c]? = some b → XcK w.K (w.cl c) ∧ PySem.W.kitOne w.K (.ref (w.cl c)) (.ref (w.cl 3)) = some b
  xi_OverflowError : ∀ c b, tabX_OverflowError[c]? = some b → XcK w.K (w.cl c) ∧ PySem.W.kitOne w.K (.ref (w.cl c)) (.type "OverflowError") = some b
  xi_ParseError : ∀ c b, tabX_ParseError[c]? = some b → XcK w.K (w.cl c) ∧ PySem.W.kitOne w.K (.ref (w.cl c)) (.ref (w.cl 0)) = some b
  xi_Refused : ∀ c b, tabX_Refused[c]? = some b → XcK w.K (w.cl c) ∧ PySem.W.kitOne w.K (.ref (w.cl c)) (.ref (w.cl 5)) = some b
  xi_RuntimeError : ∀ c b, tabX_RuntimeError[c]? = some b → XcK w.K (w.cl c) ∧ PySem.W.kitOne w.K (.ref (w.cl c)) (.type "RuntimeError") = some b
  xi_SeamError : ∀ c b, tabX_SeamError[c]? = some b → XcK w.K (w.cl c) ∧ PySem.W.kitOne w.K (.ref (w.cl c)) (.ref (w.cl 6)) = some b
  xi_TooMany : ∀ c b, tabX_TooMany[c]? = some b → XcK w.K (w.cl c) ∧ PySem.W.kitOne w.K (.ref (w.cl c)) (.ref (w.cl 4)) = some b
  xi_UnknownName : ∀ c b, tabX_UnknownName[c]? = some b → XcK w.K (w.cl c) ∧ PySem.W.kitOne w.K (.ref (w.cl c)) (.ref (w.cl 1)) = some b
  xi_ValueError : ∀ c b, tabX_ValueError[c]? = some b → XcK w.K (w.cl c) ∧ PySem.W.kitOne w.K (.ref (w.cl c)) (.type "ValueError") = some b
  xk : ∀ c, c < 20 → XcK w.K (w.cl c)
  sys : (w.K.lookup sysModules).isSome = true
  em_InvalidRecord_SeamError : PySem.W.exmOne w.K (.ref (w.cl 16)) (.ref (w.cl 6)) = some true
  em_Refused_Refused : PySem.W.exmOne w.K (.ref (w.cl 5)) (.ref (w.cl 5)) = some true
  em_Refused_SeamError : PySem.W.exmOne w.K (.ref (w.cl 5)) (.ref (w.cl 6)) = some false
  em_TooMany_Refused : PySem.W.exmOne w.K (.ref (w.cl 4)) (.ref (w.cl 5)) = some false
  em_TooMany_SeamError : PySem.W.exmOne w.K (.ref (w.cl 4)) (.ref (w.cl 6)) = some false
  em_TooMany_TooMany : PySem.W.exmOne w.K (.ref (w.cl 4)) (.ref (w.cl 4)) = some true
  x0_SeamError : Err0 w.K (w.cl 6) "ValueError.__new__" [.type "ValueError", .type "Exception", .type "BaseException", .type "object"]
  x0_InvalidPlace : Err0 w.K (w.cl 7) "ValueError.__new__" [.type "ValueError", .type "Exception", .type "BaseException", .type "object"]
  x0_InvalidTie : Err0 w.K (w.cl 8) "ValueError.__new__" [.type "ValueError", .type "Exception", .type "BaseException", .type "object"]
  x0_InvalidWeb : Err0 w.K (w.cl 9) "ValueError.__new__" [.type "ValueError", .type "Exception", .type "BaseException", .type "object"]
  x0_InvalidPiece : Err0 w.K (w.cl 10) "ValueError.__new__" [.type "ValueError", .type "Exception", .type "BaseException", .type "object"]
  x0_InvalidBuilding : Err0 w.K (w.cl 11) "ValueError.__new__" [.type "ValueError", .type "Exception", .type "BaseException", .type "object"]
  x0_InvalidPath : Err0 w.K (w.cl 12) "ValueError.__new__" [.type "ValueError", .type "Exception", .type "BaseException", .type "object"]
  x0_InvalidSaying : Err0 w.K (w.cl 13) "ValueError.__new__" [.type "ValueError", .type "Exception", .type "BaseException", .type "object"]
  x0_InvalidChoices : Err0 w.K (w.cl 14) "ValueError.__new__" [.type "ValueError", .type "Exception", .type "BaseException", .type "object"]
  x0_InvalidSchedule : Err0 w.K (w.cl 15) "ValueError.__new__" [.type "ValueError", .type "Exception", .type "BaseException", .type "object"]
  x0_InvalidRecord : Err0 w.K (w.cl 16) "ValueError.__new__" [.type "ValueError", .type "Exception", .type "BaseException", .type "object"]
  x0_InvalidTable : Err0 w.K (w.cl 17) "ValueError.__new__" [.type "ValueError", .type "Exception", .type "BaseException", .type "object"]
  x0_InvalidSurrounding : Err0 w.K (w.cl 18) "ValueError.__new__" [.type "ValueError", .type "Exception", .type "BaseException", .type "object"]
  x0_InvalidOperation : Err0 w.K (w.cl 19) "ValueError.__new__" [.type "ValueError", .type "Exception", .type "BaseException", .type "object"]
  f_l_dice : ∃ a fd, Fun K "_law_dice" "_law_dice" s_l_dice a fd ∧ mg "_law_dice" = some (.ref a)
  f_l_made_all : ∃ a fd, Fun K "_law_made_all" "_law_made_all" s_l_made_all a fd ∧ mg "_law_made_all" = some (.ref a)
  f_l_letters_of : ∃ a fd, Fun K "_law_letters_of" "_law_letters_of" s_l_letters_of a fd ∧ mg "_law_letters_of" = some (.ref a)
  f_l_kinds_of : ∃ a fd, Fun K "_law_kinds_of" "_law_kinds_of" s_l_kinds_of a fd ∧ mg "_law_kinds_of" = some (.ref a)
  f_l_all_of : ∃ a fd, Fun K "_law_all_of" "_law_all_of" s_l_all_of a fd ∧ mg "_law_all_of" = some (.ref a)
  f_l_kept : ∃ a fd, Fun K "_law_kept" "_law_kept" s_l_kept a fd ∧ mg "_law_kept" = some (.ref a)
  f_l_caught : ∃ a fd, Fun K "_law_caught" "_law_caught" s_l_caught a fd ∧ mg "_law_caught" = some (.ref a)
  f_l_right : ∃ a fd, Fun K "_law_right" "_law_right" s_l_right a fd ∧ mg "_law_right" = some (.ref a)
  f_l_roll : ∃ a fd, Fun K "_law_roll" "_law_roll" s_l_roll a fd ∧ mg "_law_roll" = some (.ref a)
  f_l_pick : ∃ a fd, Fun K "_law_pick" "_law_pick" s_l_pick a fd ∧ mg "_law_pick" = some (.ref a)
  f_lawX : ∃ a fd, Fun K "law" "law" s_lawX a fd ∧ mg "law" = some (.ref a)
structure TxP (P : Program) (K : PySem.W.Frag) (w : Wd) : Prop where
  x_ParseError : ErrK P K (w.cl 0) "number"
  x_UnknownName : ErrK P K (w.cl 1) "name"
  x_InvalidNumber : ErrK P K (w.cl 2) "value"
  x_NothingToUndo : ErrK P K (w.cl 3) "many"
  x_TooMany : ErrK P K (w.cl 4) "limit"
  x_Refused : ErrK P K (w.cl 5) "pledge"
section
variable {P : Program} {wo : World} {K : PySem.W.Frag} {mg : Str → Option Value} {base : Heap} {w : Wd}
/-! ### _law_dice -/
theorem sc_l_dice : FnScope ["_law_script", "_law_spot", "_law_cell", "_law_left"] ["_law_script", "_law_spot"] (defScope s_l_dice) := ⟨rfl, rfl, rfl, by decide +kernel, rfl, by decide +kernel, by decide +kernel⟩
theorem ok_l_dice (T : Tx K mg wo w) (TP : TxP P K w) : DefOk false P wo K mg base w "_law_dice" 2 1 fn_l_dice := by
  obtain ⟨a, fd, F, hm⟩ := T.f_l_dice
  refine ⟨a, fd, ["_law_script", "_law_spot"], rfl, (show FnP false P wo K mg base (0 + 1) a fd _ _ from fn_ok0 false F sc_l_dice (by decide) fun cdv A outer s H E hgu hr => ?_), hm, F.kp, (F.binds fun _ _ _ _ _ _ us hl => match us, hl with | [_, _], _ => rfl)⟩
  exact (pms_cons (pms_set (i := 2) sc_l_dice.nd rfl (by first | exact .inl rfl | exact .inr rfl) (pm_if (pmt_lt (pm_var 1) (pm_len T.hK (by rfl) T.n_len (pma_cons (pm_var 0) pma_nil))) (pm_int1 (by rfl) T.n_int (pma_cons (pm_item T.hK (pm_var 0) (pm_var 1)) pma_nil)) (pm_add T.hK (pm_mul pm_int (pm_var 1)) pm_int)))
      (pms_cons (pms_set (i := 3) sc_l_dice.nd rfl (by first | exact .inl rfl | exact .inr rfl) (pm_mod (pm_max rfl (by rfl) T.n_max (pma_cons pm_int (pma_cons (pm_sub (pm_abs (by rfl) T.n_abs (pma_cons (pm_var 2) pma_nil)) (pm_pow pm_int pm_int)) pma_nil))) (pm_mul (pm_pow pm_int pm_int) (pm_pow pm_int pm_int))))
      (pms_one (pms_ret (pm_lst (pma_cons (pm_var 3) (pma_cons (pm_add T.hK (pm_add T.hK (pm_add T.hK (pm_mul (pm_mod (pm_abs (by rfl) T.n_abs (pma_cons (pm_var 2) pma_nil)) pm_int) pm_int) (pm_mul pm_int (pm_var 1))) (pm_mul pm_int (pm_int1 (by rfl) T.n_int (pma_cons (pm_lt (pm_var 2) pm_int) pma_nil)))) pm_int) (pma_cons pm_int pma_nil))))))))
/-! ### _law_made_all -/
theorem sc_l_made_all : FnScope ["_law_found"] [] (defScope s_l_made_all) := ⟨rfl, rfl, rfl, by decide +kernel, rfl, by decide +kernel, by decide +kernel⟩
theorem ok_l_made_all (T : Tx K mg wo w) (TP : TxP P K w) : DefOk false P wo K mg base w "_law_made_all" 0 1 fn_l_made_all := by
  obtain ⟨a, fd, F, hm⟩ := T.f_l_made_all
  refine ⟨a, fd, [], rfl, (show FnP false P wo K mg base (0 + 1) a fd _ _ from fn_ok0 false F sc_l_made_all (by decide) fun cdv A outer s H E hgu hr => ?_), hm, F.kp, (F.binds fun _ _ _ _ _ _ us hl => match us, hl with | [], _ => rfl)⟩
  exact (pms_cons (pms_set (i := 0) sc_l_made_all.nd rfl (by first | exact .inl rfl | exact .inr rfl) (pm_lst (pma_cons (pm_exn0 PySem.F.excBase_ValueError T.hK T.x0_InvalidPlace.exc T.x0_InvalidPlace.keep (by rfl) T.c_InvalidPlace) (pma_cons (pm_exn0 PySem.F.excBase_ValueError T.hK T.x0_InvalidTie.exc T.x0_InvalidTie.keep (by rfl) T.c_InvalidTie) (pma_cons (pm_exn0 PySem.F.excBase_ValueError T.hK T.x0_InvalidWeb.exc T.x0_InvalidWeb.keep (by rfl) T.c_InvalidWeb) (pma_cons (pm_exn0 PySem.F.excBase_ValueError T.hK T.x0_InvalidPiece.exc T.x0_InvalidPiece.keep (by rfl) T.c_InvalidPiece) (pma_cons (pm_exn0 PySem.F.excBase_ValueError T.hK T.x0_InvalidBuilding.exc T.x0_InvalidBuilding.keep (by rfl) T.c_InvalidBuilding) pma_nil)))))))
      (pms_cons (pms_set (i := 0) sc_l_made_all.nd rfl (by first | exact .inl rfl | exact .inr rfl) (pm_add T.hK (pm_var 0) (pm_lst (pma_cons (pm_exn0 PySem.F.excBase_ValueError T.hK T.x0_InvalidPath.exc T.x0_InvalidPath.keep (by rfl) T.c_InvalidPath) (pma_cons (pm_exn0 PySem.F.excBase_ValueError T.hK T.x0_InvalidSaying.exc T.x0_InvalidSaying.keep (by rfl) T.c_InvalidSaying) (pma_cons (pm_exn0 PySem.F.excBase_ValueError T.hK T.x0_InvalidChoices.exc T.x0_InvalidChoices.keep (by rfl) T.c_InvalidChoices) (pma_cons (pm_exn0 PySem.F.excBase_ValueError T.hK T.x0_InvalidSchedule.exc T.x0_InvalidSchedule.keep (by rfl) T.c_InvalidSchedule) pma_nil)))))))
      (pms_cons (pms_set (i := 0) sc_l_made_all.nd rfl (by first | exact .inl rfl | exact .inr rfl) (pm_add T.hK (pm_var 0) (pm_lst (pma_cons (pm_exn0 PySem.F.excBase_ValueError T.hK T.x0_InvalidRecord.exc T.x0_InvalidRecord.keep (by rfl) T.c_InvalidRecord) (pma_cons (pm_exn0 PySem.F.excBase_ValueError T.hK T.x0_InvalidTable.exc T.x0_InvalidTable.keep (by rfl) T.c_InvalidTable) (pma_cons (pm_exn0 PySem.F.excBase_ValueError T.hK T.x0_InvalidSurrounding.exc T.x0_InvalidSurrounding.keep (by rfl) T.c_InvalidSurrounding) pma_nil))))))
      (pms_one (pms_ret (pm_add T.hK (pm_var 0) (pm_lst (pma_cons (pm_exn0 PySem.F.excBase_ValueError T.hK T.x0_InvalidOperation.exc T.x0_InvalidOperation.keep (by rfl) T.c_InvalidOperation) pma_nil))))))))
/-! ### _law_letters_of -/
theorem sc_l_letters_of : FnScope ["_law_error", "_law_found"] ["_law_error"] (defScope s_l_letters_of) := ⟨rfl, rfl, rfl, by decide +kernel, rfl, by decide +kernel, by decide +kernel⟩
theorem ok_l_letters_of (T : Tx K mg wo w) (TP : TxP P K w) : DefOk false P wo K mg base w "_law_letters_of" 1 1 fn_l_letters_of := by
  obtain ⟨a, fd, F, hm⟩ := T.f_l_letters_of
  refine ⟨a, fd, ["_law_error"], rfl, (show FnP false P wo K mg base (0 + 1) a fd _ _ from fn_ok0 false F sc_l_letters_of (by decide) fun cdv A outer s H E hgu hr => ?_), hm, F.kp, (F.binds fun _ _ _ _ _ _ us hl => match us, hl with | [_], _ => rfl)⟩
  exact (pms_cons (pms_set (i := 1) sc_l_letters_of.nd rfl (by first | exact .inl rfl | exact .inr rfl) (pm_add T.hK (pm_mulB pm_str (pm_int1 (by rfl) T.n_int (pma_cons (pm_isXC T.hK T.xi_InvalidPlace (by rfl) T.n_isinstance (by rfl) T.c_InvalidPlace (pm_var 0)) pma_nil))) (pm_mulB pm_str (pm_int1 (by rfl) T.n_int (pma_cons (pm_isXC T.hK T.xi_InvalidTie (by rfl) T.n_isinstance (by rfl) T.c_InvalidTie (pm_var 0)) pma_nil)))))
      (pms_cons (pms_set (i := 1) sc_l_letters_of.nd rfl (by first | exact .inl rfl | exact .inr rfl) (pm_add T.hK (pm_add T.hK (pm_var 1) (pm_mulB pm_str (pm_int1 (by rfl) T.n_int (pma_cons (pm_isXC T.hK T.xi_InvalidWeb (by rfl) T.n_isinstance (by rfl) T.c_InvalidWeb (pm_var 0)) pma_nil)))) (pm_mulB pm_str (pm_int1 (by rfl) T.n_int (pma_cons (pm_isXC T.hK T.xi_InvalidPiece (by rfl) T.n_isinstance (by rfl) T.c_InvalidPiece (pm_var 0)) pma_nil)))))
      (pms_cons (pms_set (i := 1) sc_l_letters_of.nd rfl (by first | exact .inl rfl | exact .inr rfl) (pm_add T.hK (pm_add T.hK (pm_var 1) (pm_mulB pm_str (pm_int1 (by rfl) T.n_int (pma_cons (pm_isXC T.hK T.xi_InvalidBuilding (by rfl) T.n_isinstance (by rfl) T.c_InvalidBuilding (pm_var 0)) pma_nil)))) (pm_mulB pm_str (pm_int1 (by rfl) T.n_int (pma_cons (pm_isXC T.hK T.xi_InvalidPath (by rfl) T.n_isinstance (by rfl) T.c_InvalidPath (pm_var 0)) pma_nil)))))
      (pms_cons (pms_set (i := 1) sc_l_letters_of.nd rfl (by first | exact .inl rfl | exact .inr rfl) (pm_add T.hK (pm_add T.hK (pm_var 1) (pm_mulB pm_str (pm_int1 (by rfl) T.n_int (pma_cons (pm_isXC T.hK T.xi_InvalidSaying (by rfl) T.n_isinstance (by rfl) T.c_InvalidSaying (pm_var 0)) pma_nil)))) (pm_mulB pm_str (pm_int1 (by rfl) T.n_int (pma_cons (pm_isXC T.hK T.xi_InvalidChoices (by rfl) T.n_isinstance (by rfl) T.c_InvalidChoices (pm_var 0)) pma_nil)))))
      (pms_cons (pms_set (i := 1) sc_l_letters_of.nd rfl (by first | exact .inl rfl | exact .inr rfl) (pm_add T.hK (pm_add T.hK (pm_var 1) (pm_mulB pm_str (pm_int1 (by rfl) T.n_int (pma_cons (pm_isXC T.hK T.xi_InvalidSchedule (by rfl) T.n_isinstance (by rfl) T.c_InvalidSchedule (pm_var 0)) pma_nil)))) (pm_mulB pm_str (pm_int1 (by rfl) T.n_int (pma_cons (pm_isXC T.hK T.xi_InvalidRecord (by rfl) T.n_isinstance (by rfl) T.c_InvalidRecord (pm_var 0)) pma_nil)))))
      (pms_cons (pms_set (i := 1) sc_l_letters_of.nd rfl (by first | exact .inl rfl | exact .inr rfl) (pm_add T.hK (pm_add T.hK (pm_var 1) (pm_mulB pm_str (pm_int1 (by rfl) T.n_int (pma_cons (pm_isXC T.hK T.xi_InvalidTable (by rfl) T.n_isinstance (by rfl) T.c_InvalidTable (pm_var 0)) pma_nil)))) (pm_mulB pm_str (pm_int1 (by rfl) T.n_int (pma_cons (pm_isXC T.hK T.xi_InvalidSurrounding (by rfl) T.n_isinstance (by rfl) T.c_InvalidSurrounding (pm_var 0)) pma_nil)))))
      (pms_one (pms_ret (pm_add T.hK (pm_var 1) (pm_mulB pm_str (pm_int1 (by rfl) T.n_int (pma_cons (pm_isXC T.hK T.xi_InvalidOperation (by rfl) T.n_isinstance (by rfl) T.c_InvalidOperation (pm_var 0)) pma_nil))))))))))))
/-! ### _law_kinds_of -/
theorem sc_l_kinds_of : FnScope ["_law_error", "_law_found"] ["_law_error"] (defScope s_l_kinds_of) := ⟨rfl, rfl, rfl, by decide +kernel, rfl, by decide +kernel, by decide +kernel⟩
theorem ok_l_kinds_of (T : Tx K mg wo w) (TP : TxP P K w) : DefOk false P wo K mg base w "_law_kinds_of" 1 1 fn_l_kinds_of := by
  obtain ⟨a, fd, F, hm⟩ := T.f_l_kinds_of
  refine ⟨a, fd, ["_law_error"], rfl, (show FnP false P wo K mg base (0 + 1) a fd _ _ from fn_ok0 false F sc_l_kinds_of (by decide) fun cdv A outer s H E hgu hr => ?_), hm, F.kp, (F.binds fun _ _ _ _ _ _ us hl => match us, hl with | [_], _ => rfl)⟩
  exact (pms_cons (pms_set (i := 1) sc_l_kinds_of.nd rfl (by first | exact .inl rfl | exact .inr rfl) (pm_add T.hK (pm_mulB pm_str (pm_int1 (by rfl) T.n_int (pma_cons (pm_isXC T.hK T.xi_ParseError (by rfl) T.n_isinstance (by rfl) T.c_ParseError (pm_var 0)) pma_nil))) (pm_mulB pm_str (pm_int1 (by rfl) T.n_int (pma_cons (pm_isXC T.hK T.xi_UnknownName (by rfl) T.n_isinstance (by rfl) T.c_UnknownName (pm_var 0)) pma_nil)))))
      (pms_cons (pms_set (i := 1) sc_l_kinds_of.nd rfl (by first | exact .inl rfl | exact .inr rfl) (pm_add T.hK (pm_add T.hK (pm_var 1) (pm_mulB pm_str (pm_int1 (by rfl) T.n_int (pma_cons (pm_isXC T.hK T.xi_InvalidNumber (by rfl) T.n_isinstance (by rfl) T.c_InvalidNumber (pm_var 0)) pma_nil)))) (pm_mulB pm_str (pm_int1 (by rfl) T.n_int (pma_cons (pm_isXC T.hK T.xi_NothingToUndo (by rfl) T.n_isinstance (by rfl) T.c_NothingToUndo (pm_var 0)) pma_nil)))))
      (pms_cons (pms_set (i := 1) sc_l_kinds_of.nd rfl (by first | exact .inl rfl | exact .inr rfl) (pm_add T.hK (pm_add T.hK (pm_var 1) (pm_mulB pm_str (pm_int1 (by rfl) T.n_int (pma_cons (pm_isXC T.hK T.xi_TooMany (by rfl) T.n_isinstance (by rfl) T.c_TooMany (pm_var 0)) pma_nil)))) (pm_mulB pm_str (pm_int1 (by rfl) T.n_int (pma_cons (pm_isXC T.hK T.xi_Refused (by rfl) T.n_isinstance (by rfl) T.c_Refused (pm_var 0)) pma_nil)))))
      (pms_cons (pms_set (i := 1) sc_l_kinds_of.nd rfl (by first | exact .inl rfl | exact .inr rfl) (pm_add T.hK (pm_add T.hK (pm_var 1) (pm_mulB pm_str (pm_int1 (by rfl) T.n_int (pma_cons (pm_isXC T.hK T.xi_SeamError (by rfl) T.n_isinstance (by rfl) T.c_SeamError (pm_var 0)) pma_nil)))) (pm_mulB pm_str (pm_int1 (by rfl) T.n_int (pma_cons (pm_isXB T.hK T.xi_ValueError (by rfl) T.n_isinstance (by rfl) T.n_ValueError rfl (pm_var 0)) pma_nil)))))
      (pms_cons (pms_set (i := 1) sc_l_kinds_of.nd rfl (by first | exact .inl rfl | exact .inr rfl) (pm_add T.hK (pm_add T.hK (pm_var 1) (pm_mulB pm_str (pm_int1 (by rfl) T.n_int (pma_cons (pm_isXB T.hK T.xi_KeyError (by rfl) T.n_isinstance (by rfl) T.n_KeyError rfl (pm_var 0)) pma_nil)))) (pm_mulB pm_str (pm_int1 (by rfl) T.n_int (pma_cons (pm_isXB T.hK T.xi_IndexError (by rfl) T.n_isinstance (by rfl) T.n_IndexError rfl (pm_var 0)) pma_nil)))))
      (pms_cons (pms_set (i := 1) sc_l_kinds_of.nd rfl (by first | exact .inl rfl | exact .inr rfl) (pm_add T.hK (pm_var 1) (pm_mulB pm_str (pm_int1 (by rfl) T.n_int (pma_cons (pm_isXB T.hK T.xi_LookupError (by rfl) T.n_isinstance (by rfl) T.n_LookupError rfl (pm_var 0)) pma_nil)))))
      (pms_cons (pms_set (i := 1) sc_l_kinds_of.nd rfl (by first | exact .inl rfl | exact .inr rfl) (pm_add T.hK (pm_var 1) (pm_mulB pm_str (pm_int1 (by rfl) T.n_int (pma_cons (pm_isXB T.hK T.xi_RuntimeError (by rfl) T.n_isinstance (by rfl) T.n_RuntimeError rfl (pm_var 0)) pma_nil)))))
      (pms_cons (pms_set (i := 1) sc_l_kinds_of.nd rfl (by first | exact .inl rfl | exact .inr rfl) (pm_add T.hK (pm_var 1) (pm_mulB pm_str (pm_int1 (by rfl) T.n_int (pma_cons (pm_isXB T.hK T.xi_OverflowError (by rfl) T.n_isinstance (by rfl) T.n_OverflowError rfl (pm_var 0)) pma_nil)))))
      (pms_one (pms_ret (pm_add T.hK (pm_var 1) (pm_mulB pm_str (pm_int1 (by rfl) T.n_int (pma_cons (pm_isXB T.hK T.xi_ArithmeticError (by rfl) T.n_isinstance (by rfl) T.n_ArithmeticError rfl (pm_var 0)) pma_nil))))))))))))))
/-! ### _law_all_of -/
theorem sc_l_all_of : FnScope ["_law_error"] ["_law_error"] (defScope s_l_all_of) := ⟨rfl, rfl, rfl, by decide +kernel, rfl, by decide +kernel, by decide +kernel⟩
theorem ok_l_all_of (T : Tx K mg wo w) (TP : TxP P K w) : DefOk false P wo K mg base w "_law_all_of" 1 2 fn_l_all_of := by
  obtain ⟨a, fd, F, hm⟩ := T.f_l_all_of
  have d_l_letters_of := ok_l_letters_of (P := P) (base := base) T TP
  have d_l_kinds_of := ok_l_kinds_of (P := P) (base := base) T TP
  refine ⟨a, fd, ["_law_error"], rfl, (show FnP false P wo K mg base (1 + 1) a fd _ _ from fn_ok0 false F sc_l_all_of (by decide) fun cdv A outer s H E hgu hr => ?_), hm, F.kp, (F.binds fun _ _ _ _ _ _ us hl => match us, hl with | [_], _ => rfl)⟩
  exact (pms_one (pms_ret (pm_add T.hK (pm_call d_l_letters_of (fun z => by cases z) (hr.mono (by omega)) (by rfl) (pma_cons (pm_var 0) pma_nil) (len_cons len_nil)) (pm_call d_l_kinds_of (fun z => by cases z) (hr.mono (by omega)) (by rfl) (pma_cons (pm_var 0) pma_nil) (len_cons len_nil)))))
/-! ### _law_kept -/
theorem sc_l_kept : FnScope ["_law_worth", "_law_index", "_law_found", "_law_parse", "_law_unknown", "_law_wrong", "_law_undo", "_law_much", "_law_refused"] ["_law_worth", "_law_index"] (defScope s_l_kept) := ⟨rfl, rfl, rfl, by decide +kernel, rfl, by decide +kernel, by decide +kernel⟩
theorem ok_l_kept (T : Tx K mg wo w) (TP : TxP P K w) : DefOk false P wo K mg base w "_law_kept" 2 3 fn_l_kept := by
  obtain ⟨a, fd, F, hm⟩ := T.f_l_kept
  have d_l_all_of := ok_l_all_of (P := P) (base := base) T TP
  refine ⟨a, fd, ["_law_worth", "_law_index"], rfl, (show FnP false P wo K mg base (2 + 1) a fd _ _ from fn_ok0 false F sc_l_kept (by decide) fun cdv A outer s H E hgu hr => ?_), hm, F.kp, (F.binds fun _ _ _ _ _ _ us hl => match us, hl with | [_, _], _ => rfl)⟩
  exact (pms_cons (pms_par3 (i := 3) (j := 4) (l := 5) rfl sc_l_kept.nd rfl rfl rfl (by decide) (by decide) (by decide) rfl rfl rfl (pma_cons (pm_exn1 T.hK TP.x_ParseError T.n_super (hr.mono (by omega)) (by rfl) T.c_ParseError (pm_var 1)) (pma_cons (pm_exn1 T.hK TP.x_UnknownName T.n_super (hr.mono (by omega)) (by rfl) T.c_UnknownName (pm_var 0)) (pma_cons (pm_exn1 T.hK TP.x_InvalidNumber T.n_super (hr.mono (by omega)) (by rfl) T.c_InvalidNumber (pm_var 0)) pma_nil))) (by rfl))
      (pms_cons (pms_par3 (i := 6) (j := 7) (l := 8) rfl sc_l_kept.nd rfl rfl rfl (by decide) (by decide) (by decide) rfl rfl rfl (pma_cons (pm_exn1 T.hK TP.x_NothingToUndo T.n_super (hr.mono (by omega)) (by rfl) T.c_NothingToUndo (pm_var 0)) (pma_cons (pm_exn1 T.hK TP.x_TooMany T.n_super (hr.mono (by omega)) (by rfl) T.c_TooMany (pm_var 0)) (pma_cons (pm_exn1 T.hK TP.x_Refused T.n_super (hr.mono (by omega)) (by rfl) T.c_Refused (pm_var 0)) pma_nil))) (by rfl))
      (pms_cons (pms_set (i := 2) sc_l_kept.nd rfl (by first | exact .inl rfl | exact .inr rfl) (pm_lst (pma_cons (pm_tup (pma_cons (pm_call d_l_all_of (fun z => by cases z) (hr.mono (by omega)) (by rfl) (pma_cons (pm_var 3) pma_nil) (len_cons len_nil)) (pma_cons (pm_xfld T.hK (T.xk 0 (by decide)) T.k_ParseError.no (pm_var 3)) pma_nil))) (pma_cons (pm_tup (pma_cons (pm_call d_l_all_of (fun z => by cases z) (hr.mono (by omega)) (by rfl) (pma_cons (pm_var 4) pma_nil) (len_cons len_nil)) (pma_cons (pm_xfld T.hK (T.xk 1 (by decide)) T.k_UnknownName.no (pm_var 4)) pma_nil))) pma_nil))))
      (pms_cons (pms_set (i := 2) sc_l_kept.nd rfl (by first | exact .inl rfl | exact .inr rfl) (pm_add T.hK (pm_var 2) (pm_lst (pma_cons (pm_tup (pma_cons (pm_call d_l_all_of (fun z => by cases z) (hr.mono (by omega)) (by rfl) (pma_cons (pm_var 5) pma_nil) (len_cons len_nil)) (pma_cons (pm_xfld T.hK (T.xk 2 (by decide)) T.k_InvalidNumber.no (pm_var 5)) pma_nil))) (pma_cons (pm_tup (pma_cons (pm_call d_l_all_of (fun z => by cases z) (hr.mono (by omega)) (by rfl) (pma_cons (pm_var 6) pma_nil) (len_cons len_nil)) (pma_cons (pm_xfld T.hK (T.xk 3 (by decide)) T.k_NothingToUndo.no (pm_var 6)) pma_nil))) pma_nil)))))
      (pms_one (pms_ret (pm_add T.hK (pm_var 2) (pm_lst (pma_cons (pm_tup (pma_cons (pm_call d_l_all_of (fun z => by cases z) (hr.mono (by omega)) (by rfl) (pma_cons (pm_var 7) pma_nil) (len_cons len_nil)) (pma_cons (pm_xfld T.hK (T.xk 4 (by decide)) T.k_TooMany.no (pm_var 7)) pma_nil))) (pma_cons (pm_tup (pma_cons (pm_call d_l_all_of (fun z => by cases z) (hr.mono (by omega)) (by rfl) (pma_cons (pm_var 8) pma_nil) (len_cons len_nil)) (pma_cons (pm_xfld T.hK (T.xk 5 (by decide)) T.k_Refused.no (pm_var 8)) pma_nil))) pma_nil))))))))))
/-! ### H:_law_letters_of -/
theorem ok_h_l_letters_of (T : Tx K mg wo w) : ∃ a fd, FnE P wo K mg base 1 a fd "_law_error" (w.cl 16) "j" ∧ mg "_law_letters_of" = some (.ref a) ∧ PySem.W.keepIn K (.ref a) = true ∧ Binds K fd ["_law_error"] [] := by
  obtain ⟨a, fd, F, hm⟩ := T.f_l_letters_of
  refine ⟨a, fd, fnE_of (w := w) (k := 0) F sc_l_letters_of (by decide) (fun cdv A outer s H E p hot hz hrr => ?_) hotv_l_letters_of, hm, F.kp, (F.binds fun _ _ _ _ _ _ us hl => match us, hl with | [_], _ => rfl)⟩
  have hf : ∃ vs, p.2.data = .fields vs := by obtain ⟨_, vs, e, _⟩ := hot; exact ⟨vs, e⟩
  exact (pms_cons (pms_set (i := 1) sc_l_letters_of.nd rfl (by first | exact .inl rfl | exact .inr rfl) (pm_add T.hK (pm_mulB pm_str (pm_int1 (by rfl) T.n_int (pma_cons (pm_isP (b := false) (D := w.cl 16) (oe := p.2) T.hK (pin_mem w p) (T.xk 16 (by decide)) hz hf (T.xi_InvalidPlace 16 false rfl).2 (by rfl) T.n_isinstance (by rfl) T.c_InvalidPlace (pm_var 0)) pma_nil))) (pm_mulB pm_str (pm_int1 (by rfl) T.n_int (pma_cons (pm_isP (b := false) (D := w.cl 16) (oe := p.2) T.hK (pin_mem w p) (T.xk 16 (by decide)) hz hf (T.xi_InvalidTie 16 false rfl).2 (by rfl) T.n_isinstance (by rfl) T.c_InvalidTie (pm_var 0)) pma_nil)))))
      (pms_cons (pms_set (i := 1) sc_l_letters_of.nd rfl (by first | exact .inl rfl | exact .inr rfl) (pm_add T.hK (pm_add T.hK (pm_var 1) (pm_mulB pm_str (pm_int1 (by rfl) T.n_int (pma_cons (pm_isP (b := false) (D := w.cl 16) (oe := p.2) T.hK (pin_mem w p) (T.xk 16 (by decide)) hz hf (T.xi_InvalidWeb 16 false rfl).2 (by rfl) T.n_isinstance (by rfl) T.c_InvalidWeb (pm_var 0)) pma_nil)))) (pm_mulB pm_str (pm_int1 (by rfl) T.n_int (pma_cons (pm_isP (b := false) (D := w.cl 16) (oe := p.2) T.hK (pin_mem w p) (T.xk 16 (by decide)) hz hf (T.xi_InvalidPiece 16 false rfl).2 (by rfl) T.n_isinstance (by rfl) T.c_InvalidPiece (pm_var 0)) pma_nil)))))
      (pms_cons (pms_set (i := 1) sc_l_letters_of.nd rfl (by first | exact .inl rfl | exact .inr rfl) (pm_add T.hK (pm_add T.hK (pm_var 1) (pm_mulB pm_str (pm_int1 (by rfl) T.n_int (pma_cons (pm_isP (b := false) (D := w.cl 16) (oe := p.2) T.hK (pin_mem w p) (T.xk 16 (by decide)) hz hf (T.xi_InvalidBuilding 16 false rfl).2 (by rfl) T.n_isinstance (by rfl) T.c_InvalidBuilding (pm_var 0)) pma_nil)))) (pm_mulB pm_str (pm_int1 (by rfl) T.n_int (pma_cons (pm_isP (b := false) (D := w.cl 16) (oe := p.2) T.hK (pin_mem w p) (T.xk 16 (by decide)) hz hf (T.xi_InvalidPath 16 false rfl).2 (by rfl) T.n_isinstance (by rfl) T.c_InvalidPath (pm_var 0)) pma_nil)))))
      (pms_cons (pms_set (i := 1) sc_l_letters_of.nd rfl (by first | exact .inl rfl | exact .inr rfl) (pm_add T.hK (pm_add T.hK (pm_var 1) (pm_mulB pm_str (pm_int1 (by rfl) T.n_int (pma_cons (pm_isP (b := false) (D := w.cl 16) (oe := p.2) T.hK (pin_mem w p) (T.xk 16 (by decide)) hz hf (T.xi_InvalidSaying 16 false rfl).2 (by rfl) T.n_isinstance (by rfl) T.c_InvalidSaying (pm_var 0)) pma_nil)))) (pm_mulB pm_str (pm_int1 (by rfl) T.n_int (pma_cons (pm_isP (b := false) (D := w.cl 16) (oe := p.2) T.hK (pin_mem w p) (T.xk 16 (by decide)) hz hf (T.xi_InvalidChoices 16 false rfl).2 (by rfl) T.n_isinstance (by rfl) T.c_InvalidChoices (pm_var 0)) pma_nil)))))
      (pms_cons (pms_set (i := 1) sc_l_letters_of.nd rfl (by first | exact .inl rfl | exact .inr rfl) (pm_add T.hK (pm_add T.hK (pm_var 1) (pm_mulB pm_str (pm_int1 (by rfl) T.n_int (pma_cons (pm_isP (b := false) (D := w.cl 16) (oe := p.2) T.hK (pin_mem w p) (T.xk 16 (by decide)) hz hf (T.xi_InvalidSchedule 16 false rfl).2 (by rfl) T.n_isinstance (by rfl) T.c_InvalidSchedule (pm_var 0)) pma_nil)))) (pm_mulB pm_str (pm_int1 (by rfl) T.n_int (pma_cons (pm_isP (b := true) (D := w.cl 16) (oe := p.2) T.hK (pin_mem w p) (T.xk 16 (by decide)) hz hf (T.xi_InvalidRecord 16 true rfl).2 (by rfl) T.n_isinstance (by rfl) T.c_InvalidRecord (pm_var 0)) pma_nil)))))
      (pms_cons (pms_set (i := 1) sc_l_letters_of.nd rfl (by first | exact .inl rfl | exact .inr rfl) (pm_add T.hK (pm_add T.hK (pm_var 1) (pm_mulB pm_str (pm_int1 (by rfl) T.n_int (pma_cons (pm_isP (b := false) (D := w.cl 16) (oe := p.2) T.hK (pin_mem w p) (T.xk 16 (by decide)) hz hf (T.xi_InvalidTable 16 false rfl).2 (by rfl) T.n_isinstance (by rfl) T.c_InvalidTable (pm_var 0)) pma_nil)))) (pm_mulB pm_str (pm_int1 (by rfl) T.n_int (pma_cons (pm_isP (b := false) (D := w.cl 16) (oe := p.2) T.hK (pin_mem w p) (T.xk 16 (by decide)) hz hf (T.xi_InvalidSurrounding 16 false rfl).2 (by rfl) T.n_isinstance (by rfl) T.c_InvalidSurrounding (pm_var 0)) pma_nil)))))
      (pms_one (pms_ret (pm_add T.hK (pm_var 1) (pm_mulB pm_str (pm_int1 (by rfl) T.n_int (pma_cons (pm_isP (b := false) (D := w.cl 16) (oe := p.2) T.hK (pin_mem w p) (T.xk 16 (by decide)) hz hf (T.xi_InvalidOperation 16 false rfl).2 (by rfl) T.n_isinstance (by rfl) T.c_InvalidOperation (pm_var 0)) pma_nil))))))))))))
/-! ### _law_caught -/
theorem sc_l_caught : FnScope ["_law_worth", "_law_way", "e"] ["_law_worth", "_law_way"] (defScope s_l_caught) := ⟨rfl, rfl, rfl, by decide +kernel, rfl, by decide +kernel, by decide +kernel⟩
theorem ok_l_caught (T : Tx K mg wo w) (TP : TxP P K w) : DefOk true P wo K mg base w "_law_caught" 2 4 fn_l_caught := by
  obtain ⟨a, fd, F, hm⟩ := T.f_l_caught
  obtain ⟨_, _, fE_l_letters_of, mE_l_letters_of, kE_l_letters_of, bE_l_letters_of⟩ := ok_h_l_letters_of (P := P) (base := base) T
  refine ⟨a, fd, ["_law_worth", "_law_way"], rfl, (show FnP true P wo K mg base (3 + 1) a fd _ _ from fn_ok0 true F sc_l_caught (by decide) fun cdv A outer s H E hgu hr => ?_), hm, F.kp, (F.binds fun _ _ _ _ _ _ us hl => match us, hl with | [_, _], _ => rfl)⟩
  replace hgu := hgu rfl
  exact (pms_one (pms_tryK (i := 2) (c0 := 16) (CS := w.cl 6) T.hK (fun W pn xe tk po => (pms_cons (pms_if (pmt_eq T.hK hr (pm_var 1) pm_int) (pms_one (pms_raiseN0 T.hK tk PySem.F.excBase_ValueError T.x0_InvalidRecord.exc T.x0_InvalidRecord.keep T.x0_InvalidRecord.sub T.x0_InvalidRecord.ty (by rfl) T.c_InvalidRecord)) pms_nil)
      (pms_cons (pms_if (pmt_eq T.hK hr (pm_var 1) pm_int) (pms_one (pms_raiseN1 tk TP.x_Refused T.n_super (hr.mono (by omega)) (by rfl) T.c_Refused (pm_var 0))) pms_nil)
      (pms_one (pms_raiseN1 tk TP.x_TooMany T.n_super (hr.mono (by omega)) (by rfl) T.c_TooMany (pm_var 0)))))) fE_l_letters_of (L2H.roomH_of (hr.mono (by omega))) (by rfl) mE_l_letters_of kE_l_letters_of bE_l_letters_of T.sys hgu hr.units (by rfl) T.n_repr T.em_InvalidRecord_SeamError T.em_Refused_SeamError T.em_Refused_Refused T.em_TooMany_SeamError T.em_TooMany_Refused T.em_TooMany_TooMany ⟨by rfl, by decide, .inl T.c_SeamError⟩ ⟨by rfl, by decide, .inl T.c_Refused⟩ ⟨by rfl, by decide, .inl T.c_TooMany⟩ T.k_Refused.xf T.k_Refused.no T.k_TooMany.xf T.k_TooMany.no sc_l_caught.nd rfl rfl (by decide +kernel)))
/-! ### _law_right -/
theorem sc_l_right : FnScope ["_law_worth", "_law_index", "_law_letters", "_law_due", "_law_told", "_law_way", "_law_error", "_law_letter"] ["_law_worth", "_law_index"] (defScope s_l_right) := ⟨rfl, rfl, rfl, by decide +kernel, rfl, by decide +kernel, by decide +kernel⟩
theorem ok_l_right (T : Tx K mg wo w) (TP : TxP P K w) : DefOk true P wo K mg base w "_law_right" 2 5 fn_l_right := by
  obtain ⟨a, fd, F, hm⟩ := T.f_l_right
  have d_l_made_all := ok_l_made_all (P := P) (base := base) T TP
  have d_l_all_of := ok_l_all_of (P := P) (base := base) T TP
  have d_l_kept := ok_l_kept (P := P) (base := base) T TP
  have d_l_caught := ok_l_caught (P := P) (base := base) T TP
  refine ⟨a, fd, ["_law_worth", "_law_index"], rfl, (show FnP true P wo K mg base (4 + 1) a fd _ _ from fn_ok0 true F sc_l_right (by decide) fun cdv A outer s H E hgu hr => ?_), hm, F.kp, (F.binds fun _ _ _ _ _ _ us hl => match us, hl with | [_, _], _ => rfl)⟩
  replace hgu := hgu rfl
  exact (pms_cons (pms_set (i := 2) sc_l_right.nd rfl (by first | exact .inl rfl | exact .inr rfl) pm_str)
      (pms_cons (pms_if (pmt_ne T.hK hr (pm_lc (own := [("_law_error", 6)]) rfl sc_l_right.nd (pmi_list T.hK (pm_call0 d_l_made_all (fun z => by cases z) (hr.mono (by omega)) (by rfl))) (blkOk_by (by kernel_rfl)) (by decide) (fun _ _ _ _ _ => (pmg_name (i := 6) sc_l_right.nd rfl (by first | exact .inl rfl | exact .inr rfl))) (fun _ _ _ _ _ => pmts_nil) (fun _ _ _ _ _ => (pm_call d_l_all_of (fun z => by cases z) (hr.mono (by omega)) (by rfl) (pma_cons (pm_var 6) pma_nil) (len_cons len_nil)))) (pm_lc (own := [("_law_letter", 7)]) rfl sc_l_right.nd (pmi_str (pm_var 2)) (blkOk_by (by kernel_rfl)) (by decide) (fun _ _ _ _ _ => (pmg_name (i := 7) sc_l_right.nd rfl (by first | exact .inl rfl | exact .inr rfl))) (fun _ _ _ _ _ => pmts_nil) (fun _ _ _ _ _ => (pm_add T.hK (pm_var 7) pm_str)))) (pms_one (pms_ret pm_bl)) pms_nil)
      (pms_cons (pms_set (i := 3) sc_l_right.nd rfl (by first | exact .inl rfl | exact .inr rfl) (pm_lst (pma_cons (pm_tup (pma_cons pm_str (pma_cons (pm_var 1) pma_nil))) (pma_cons (pm_tup (pma_cons pm_str (pma_cons (pm_var 0) pma_nil))) (pma_cons (pm_tup (pma_cons pm_str (pma_cons (pm_var 0) pma_nil))) (pma_cons (pm_tup (pma_cons pm_str (pma_cons (pm_var 0) pma_nil))) pma_nil))))))
      (pms_cons (pms_set (i := 3) sc_l_right.nd rfl (by first | exact .inl rfl | exact .inr rfl) (pm_add T.hK (pm_var 3) (pm_lst (pma_cons (pm_tup (pma_cons pm_str (pma_cons (pm_var 0) pma_nil))) (pma_cons (pm_tup (pma_cons pm_str (pma_cons (pm_var 0) pma_nil))) pma_nil)))))
      (pms_cons (pms_if (PMW.pt (pmw_or (pmt_ne T.hK hr (pm_reprX T.hK T.sys hgu hr (by rfl) T.n_repr (pma_cons (pm_call d_l_kept (fun z => by cases z) (hr.mono (by omega)) (by rfl) (pma_cons (pm_var 0) (pma_cons (pm_var 1) pma_nil)) (len_cons (len_cons len_nil))) pma_nil)) (pm_reprX T.hK T.sys hgu hr (by rfl) T.n_repr (pma_cons (pm_var 3) pma_nil))) (pmw_or1 (pmt_ne T.hK hr (pm_call d_l_all_of (fun z => by cases z) (hr.mono (by omega)) (by rfl) (pma_cons (pm_exn0 PySem.F.excBase_ValueError T.hK T.x0_SeamError.exc T.x0_SeamError.keep (by rfl) T.c_SeamError) pma_nil) (len_cons len_nil)) pm_str)))) (pms_one (pms_ret pm_bl)) pms_nil)
      (pms_cons (pms_lc (i := 4) (ps_lc (own := [("_law_way", 5)]) rfl sc_l_right.nd rfl rfl rfl (pmi_range1 (by rfl) T.n_range (pma_cons pm_int pma_nil)) (blkOk_by (by kernel_rfl)) (by decide) (fun _ _ _ _ _ => (pmg_name (i := 5) sc_l_right.nd rfl (by first | exact .inl rfl | exact .inr rfl))) (fun _ _ _ _ _ => pmts_nil) (fun _ _ _ _ _ => (pm_call d_l_caught (fun _ => hgu) (hr.mono (by omega)) (by rfl) (pma_cons (pm_var 0) (pma_cons (pm_var 5) pma_nil)) (len_cons (len_cons len_nil))))))
      (pms_one (pms_ret (pm_eq T.hK hr (pm_var 4) (pm_lst (pma_cons pm_str (pma_cons (pm_add T.hK pm_str (pm_reprX T.hK T.sys hgu hr (by rfl) T.n_repr (pma_cons (pm_var 0) pma_nil))) (pma_cons (pm_add T.hK pm_str (pm_reprX T.hK T.sys hgu hr (by rfl) T.n_repr (pma_cons (pm_var 0) pma_nil))) pma_nil)))))))))))))
/-! ### _law_roll -/
theorem sc_l_roll : FnScope ["_law_dice_here", "_law_total", "_law_one", "_law_two", "_law_found"] ["_law_dice_here", "_law_total"] (defScope s_l_roll) := ⟨rfl, rfl, rfl, by decide +kernel, rfl, by decide +kernel, by decide +kernel⟩
theorem ok_l_roll (T : Tx K mg wo w) (TP : TxP P K w) : DefOk false P wo K mg base w "_law_roll" 2 1 fn_l_roll := by
  obtain ⟨a, fd, F, hm⟩ := T.f_l_roll
  refine ⟨a, fd, ["_law_dice_here", "_law_total"], rfl, (show FnP false P wo K mg base (0 + 1) a fd _ _ from fn_ok0 false F sc_l_roll (by decide) fun cdv A outer s H E hgu hr => ?_), hm, F.kp, (F.binds fun _ _ _ _ _ _ us hl => match us, hl with | [_, _], _ => rfl)⟩
  exact (pms_cons (pms_if (pmt_gt (pm_itemO 0 T.hK pm_int) pm_int) (pms_cons (pms_set (i := 4) sc_l_roll.nd rfl (by first | exact .inl rfl | exact .inr rfl) (pm_mod (pm_int1 (by rfl) T.n_int (pma_cons (pm_itemO 0 T.hK pm_int) pma_nil)) (pm_var 1)))
      (pms_cons (pms_setItem 0 (pm_div (pm_itemO 0 T.hK pm_int) (pm_var 1)) pm_int)
      (pms_one (pms_ret (pm_var 4))))) pms_nil)
      (pms_cons (pms_setItem 0 (pm_add T.hK (pm_itemO 0 T.hK pm_int) pm_int) pm_int)
      (pms_cons (pms_set (i := 2) sc_l_roll.nd rfl (by first | exact .inl rfl | exact .inr rfl) (pm_mod (pm_int1 (by rfl) T.n_int (pma_cons (pm_add T.hK (pm_itemO 0 T.hK pm_int) (pm_mul pm_int (pm_itemO 0 T.hK pm_int))) pma_nil)) pm_int))
      (pms_cons (pms_set (i := 3) sc_l_roll.nd rfl (by first | exact .inl rfl | exact .inr rfl) (pm_add T.hK (pm_mul (pm_mod (pm_int1 (by rfl) T.n_int (pma_cons (pm_add T.hK (pm_mul (pm_var 2) (pm_var 2)) (pm_mul pm_int (pm_itemO 0 T.hK pm_int))) pma_nil)) pm_int) pm_int) (pm_var 2)))
      (pms_one (pms_ret (pm_mod (pm_int1 (by rfl) T.n_int (pma_cons (pm_div (pm_var 3) pm_int) pma_nil)) (pm_var 1))))))))
/-! ### _law_pick -/
theorem sc_l_pick : FnScope ["_law_dice_here", "_law_items"] ["_law_dice_here", "_law_items"] (defScope s_l_pick) := ⟨rfl, rfl, rfl, by decide +kernel, rfl, by decide +kernel, by decide +kernel⟩
theorem ok_l_pick (T : Tx K mg wo w) (TP : TxP P K w) : DefOk false P wo K mg base w "_law_pick" 2 2 fn_l_pick := by
  obtain ⟨a, fd, F, hm⟩ := T.f_l_pick
  have d_l_roll := ok_l_roll (P := P) (base := base) T TP
  refine ⟨a, fd, ["_law_dice_here", "_law_items"], rfl, (show FnP false P wo K mg base (1 + 1) a fd _ _ from fn_ok0 false F sc_l_pick (by decide) fun cdv A outer s H E hgu hr => ?_), hm, F.kp, (F.binds fun _ _ _ _ _ _ us hl => match us, hl with | [_, _], _ => rfl)⟩
  exact (pms_one (pms_ret (pm_item T.hK (pm_var 1) (pm_callD 0 d_l_roll (fun z => by cases z) (hr.mono (by omega)) (by rfl) (pma_cons (pm_len T.hK (by rfl) T.n_len (pma_cons (pm_var 1) pma_nil)) pma_nil) (len_cons len_nil)))))
/-! ### law -/
theorem sc_lawX : FnScope ["_law_script", "_law_spot", "_law_dice_here", "_law_some"] ["_law_script"] (defScope s_lawX) := ⟨rfl, rfl, rfl, by decide +kernel, rfl, by decide +kernel, by decide +kernel⟩
theorem top_law (T : Tx K mg wo w) : ∃ a fd, mg "law" = some (.ref a) ∧ (∀ (s : Shared) (u : Value), BindsTo s fd ⟨[u], []⟩ [("_law_script", u)]) ∧ ∀ (P : Program) (base : Heap), TxP P K w → FnP true P wo K mg base 6 a fd ["_law_script"] (spOf w 1 fn_lawX) := by
  obtain ⟨a, fd, F, hm⟩ := T.f_lawX
  refine ⟨a, fd, hm, ?_, fun P base TP => ?_⟩
  · obtain ⟨oc, od, kV, doc, pm, an, cdv, ct, osl, rfl, lk, hcd⟩ := F.ex
    exact fun s u => .of_eq rfl
  have d_l_dice := ok_l_dice (P := P) (base := base) T TP
  have d_l_right := ok_l_right (P := P) (base := base) T TP
  have d_l_pick := ok_l_pick (P := P) (base := base) T TP
  refine (show FnP true P wo K mg base (5 + 1) a fd _ _ from fn_ok0 true F sc_lawX (by decide) fun cdv A outer s H E hgu hr => ?_)
  replace hgu := hgu rfl
  exact (pms_cons (pms_for PassesOwn.never rfl (pmi_range1 (by rfl) T.n_range (pma_cons (pm_max rfl (by rfl) T.n_max (pma_cons pm_int (pma_cons (pm_min rfl (by rfl) T.n_min (pma_cons pm_int (pma_cons (pm_len T.hK (by rfl) T.n_len (pma_cons (pm_var 0) pma_nil)) pma_nil))) pma_nil))) pma_nil)) (pmg_name (i := 1) sc_lawX.nd rfl (by first | exact .inl rfl | exact .inr rfl)) (pms_cons (pms_setO (i := 2) sc_lawX.nd rfl (by first | exact .inl rfl | exact .inr rfl) (pm_call d_l_dice (fun z => by cases z) (hr.mono (by omega)) (by rfl) (pma_cons (pm_var 0) (pma_cons (pm_var 1) pma_nil)) (len_cons (len_cons len_nil))))
      (pms_cons (pms_set (i := 3) sc_lawX.nd rfl (by first | exact .inl rfl | exact .inr rfl) (pm_lst (pma_cons pm_non (pma_cons pm_bl (pma_cons pm_int (pma_cons pm_str (pma_cons pm_str (pma_cons (pm_tup (pma_cons pm_int (pma_cons pm_int pma_nil))) (pma_cons (pm_lst (pma_cons pm_int pma_nil)) (pma_cons (pm_disp (stp_cons still_int still_int stp_nil)) (pma_cons (pm_tup (pma_cons (pm_tup pma_nil) (pma_cons (pm_tup (pma_cons pm_str (pma_cons pm_int pma_nil))) pma_nil))) (pma_cons pm_str (pma_cons (pm_pow pm_int pm_int) (pma_cons (pm_tup (pma_cons pm_str (pma_cons pm_str pma_nil))) pma_nil))))))))))))))
      (pms_one (pms_if (pmt_not (pmt_val (pm_call d_l_right (fun _ => hgu) (hr.mono (by omega)) (by rfl) (pma_cons (pm_callD 2 d_l_pick (fun z => by cases z) (hr.mono (by omega)) (by rfl) (pma_cons (pm_var 3) pma_nil) (len_cons len_nil)) (pma_cons (pm_callD 2 d_l_pick (fun z => by cases z) (hr.mono (by omega)) (by rfl) (pma_cons (pm_lst (pma_cons pm_non (pma_cons pm_int (pma_cons pm_int (pma_cons (pm_pow pm_int pm_int) pma_nil))))) pma_nil) (len_cons len_nil)) pma_nil)) (len_cons (len_cons len_nil))))) (pms_one (pms_ret pm_bl)) pms_nil)))))
      (pms_one (pms_ret pm_bl)))
end
end PM.G

namespace PM.G
open PySem PySem.Spec PyProof.Rows L2 PM
def fns0 : List DfM := [⟨gloAt "_law_dice", "_law_dice", "_law_dice", s_l_dice⟩,
  ⟨gloAt "_law_made_all", "_law_made_all", "_law_made_all", s_l_made_all⟩,
  ⟨gloAt "_law_letters_of", "_law_letters_of", "_law_letters_of", s_l_letters_of⟩,
  ⟨gloAt "_law_kinds_of", "_law_kinds_of", "_law_kinds_of", s_l_kinds_of⟩,
  ⟨gloAt "_law_all_of", "_law_all_of", "_law_all_of", s_l_all_of⟩,
  ⟨gloAt "_law_kept", "_law_kept", "_law_kept", s_l_kept⟩,
  ⟨gloAt "_law_caught", "_law_caught", "_law_caught", s_l_caught⟩,
  ⟨gloAt "_law_right", "_law_right", "_law_right", s_l_right⟩,
  ⟨gloAt "_law_roll", "_law_roll", "_law_roll", s_l_roll⟩,
  ⟨gloAt "_law_pick", "_law_pick", "_law_pick", s_l_pick⟩,
  ⟨gloAt "law", "law", "law", s_lawX⟩]
def fns : List DfM := fns0
def tabs : List He.Tab := []
def names0 : List PySem.Str := ["SeamError",
  "InvalidPlace",
  "InvalidTie",
  "InvalidWeb",
  "InvalidPiece",
  "InvalidBuilding",
  "InvalidPath",
  "InvalidSaying",
  "InvalidChoices",
  "InvalidSchedule",
  "InvalidRecord",
  "InvalidTable",
  "InvalidSurrounding",
  "InvalidOperation",
  "ParseError",
  "UnknownName",
  "InvalidNumber",
  "NothingToUndo",
  "TooMany",
  "Refused",
  "_law_dice",
  "_law_roll",
  "_law_pick",
  "_law_made_all",
  "_law_letters_of",
  "_law_kinds_of",
  "_law_all_of",
  "_law_kept",
  "_law_caught",
  "_law_right"]
def names : List PySem.Str := names0
abbrev R : PySem.W.OpenRow := PySem.W.OpenLaw.row PySem.Challenge.rw_seamsayings_k01_errors_and_what_they_kee
abbrev si_ParseError : Stmt := inCls (top 15) 0
def sb_ParseError : SupSt := (supOf (defBody si_ParseError)).getD ⟨"", "", "", "", 0, ⟨0, 0, 0, 0⟩, ⟨0, 0, 0, 0⟩, ⟨0, 0, 0, 0⟩, ⟨0, 0, 0, 0⟩, ⟨0, 0, 0, 0⟩, ⟨0, 0, 0, 0⟩, ⟨0, 0, 0, 0⟩, ⟨0, 0, 0, 0⟩, ⟨0, 0, 0, 0⟩, ⟨0, 0, 0, 0⟩⟩
abbrev si_UnknownName : Stmt := inCls (top 16) 0
def sb_UnknownName : SupSt := (supOf (defBody si_UnknownName)).getD ⟨"", "", "", "", 0, ⟨0, 0, 0, 0⟩, ⟨0, 0, 0, 0⟩, ⟨0, 0, 0, 0⟩, ⟨0, 0, 0, 0⟩, ⟨0, 0, 0, 0⟩, ⟨0, 0, 0, 0⟩, ⟨0, 0, 0, 0⟩, ⟨0, 0, 0, 0⟩, ⟨0, 0, 0, 0⟩, ⟨0, 0, 0, 0⟩⟩
abbrev si_InvalidNumber : Stmt := inCls (top 17) 0
def sb_InvalidNumber : SupSt := (supOf (defBody si_InvalidNumber)).getD ⟨"", "", "", "", 0, ⟨0, 0, 0, 0⟩, ⟨0, 0, 0, 0⟩, ⟨0, 0, 0, 0⟩, ⟨0, 0, 0, 0⟩, ⟨0, 0, 0, 0⟩, ⟨0, 0, 0, 0⟩, ⟨0, 0, 0, 0⟩, ⟨0, 0, 0, 0⟩, ⟨0, 0, 0, 0⟩, ⟨0, 0, 0, 0⟩⟩
abbrev si_NothingToUndo : Stmt := inCls (top 18) 0
def sb_NothingToUndo : SupSt := (supOf (defBody si_NothingToUndo)).getD ⟨"", "", "", "", 0, ⟨0, 0, 0, 0⟩, ⟨0, 0, 0, 0⟩, ⟨0, 0, 0, 0⟩, ⟨0, 0, 0, 0⟩, ⟨0, 0, 0, 0⟩, ⟨0, 0, 0, 0⟩, ⟨0, 0, 0, 0⟩, ⟨0, 0, 0, 0⟩, ⟨0, 0, 0, 0⟩, ⟨0, 0, 0, 0⟩⟩
abbrev si_TooMany : Stmt := inCls (top 19) 0
def sb_TooMany : SupSt := (supOf (defBody si_TooMany)).getD ⟨"", "", "", "", 0, ⟨0, 0, 0, 0⟩, ⟨0, 0, 0, 0⟩, ⟨0, 0, 0, 0⟩, ⟨0, 0, 0, 0⟩, ⟨0, 0, 0, 0⟩, ⟨0, 0, 0, 0⟩, ⟨0, 0, 0, 0⟩, ⟨0, 0, 0, 0⟩, ⟨0, 0, 0, 0⟩, ⟨0, 0, 0, 0⟩⟩
abbrev si_Refused : Stmt := inCls (top 20) 0
def sb_Refused : SupSt := (supOf (defBody si_Refused)).getD ⟨"", "", "", "", 0, ⟨0, 0, 0, 0⟩, ⟨0, 0, 0, 0⟩, ⟨0, 0, 0, 0⟩, ⟨0, 0, 0, 0⟩, ⟨0, 0, 0, 0⟩, ⟨0, 0, 0, 0⟩, ⟨0, 0, 0, 0⟩, ⟨0, 0, 0, 0⟩, ⟨0, 0, 0, 0⟩, ⟨0, 0, 0, 0⟩⟩
def fcs : List DfC := [⟨metAt "ParseError" "__init__", "__init__", "ParseError" ++ ".__init__", si_ParseError⟩, ⟨metAt "UnknownName" "__init__", "__init__", "UnknownName" ++ ".__init__", si_UnknownName⟩, ⟨metAt "InvalidNumber" "__init__", "__init__", "InvalidNumber" ++ ".__init__", si_InvalidNumber⟩, ⟨metAt "NothingToUndo" "__init__", "__init__", "NothingToUndo" ++ ".__init__", si_NothingToUndo⟩, ⟨metAt "TooMany" "__init__", "__init__", "TooMany" ++ ".__init__", si_TooMany⟩, ⟨metAt "Refused" "__init__", "__init__", "Refused" ++ ".__init__", si_Refused⟩]
def cs0 : List Chk := [freeB "ArithmeticError",
  freeB "IndexError",
  freeB "KeyError",
  freeB "LookupError",
  freeB "OverflowError",
  freeB "RuntimeError",
  freeB "ValueError",
  freeB "abs",
  freeB "int",
  freeB "isinstance",
  freeB "len",
  freeB "max",
  freeB "min",
  freeB "range",
  freeB "repr",
  gloB "InvalidBuilding",
  gloB "InvalidChoices",
  gloB "InvalidNumber",
  gloB "InvalidOperation",
  gloB "InvalidPath",
  gloB "InvalidPiece",
  gloB "InvalidPlace",
  gloB "InvalidRecord",
  gloB "InvalidSaying",
  gloB "InvalidSchedule",
  gloB "InvalidSurrounding",
  gloB "InvalidTable",
  gloB "InvalidTie",
  gloB "InvalidWeb",
  gloB "NothingToUndo"]
def cs1 : List Chk := [gloB "ParseError",
  gloB "Refused",
  gloB "SeamError",
  gloB "TooMany",
  gloB "UnknownName",
  freeB "super",
  clkB "ParseError" "number",
  clkB "UnknownName" "name",
  clkB "InvalidNumber" "value",
  clkB "NothingToUndo" "many",
  clkB "TooMany" "limit",
  clkB "Refused" "pledge",
  xcksB xnames,
  kitsX xnames (.inl "ArithmeticError") tabX_ArithmeticError,
  kitsX xnames (.inl "IndexError") tabX_IndexError,
  kitsX xnames (.inr "InvalidBuilding") tabX_InvalidBuilding,
  kitsX xnames (.inr "InvalidChoices") tabX_InvalidChoices,
  kitsX xnames (.inr "InvalidNumber") tabX_InvalidNumber,
  kitsX xnames (.inr "InvalidOperation") tabX_InvalidOperation,
  kitsX xnames (.inr "InvalidPath") tabX_InvalidPath,
  kitsX xnames (.inr "InvalidPiece") tabX_InvalidPiece,
  kitsX xnames (.inr "InvalidPlace") tabX_InvalidPlace,
  kitsX xnames (.inr "InvalidRecord") tabX_InvalidRecord,
  kitsX xnames (.inr "InvalidSaying") tabX_InvalidSaying,
  kitsX xnames (.inr "InvalidSchedule") tabX_InvalidSchedule,
  kitsX xnames (.inr "InvalidSurrounding") tabX_InvalidSurrounding,
  kitsX xnames (.inr "InvalidTable") tabX_InvalidTable,
  kitsX xnames (.inr "InvalidTie") tabX_InvalidTie,
  kitsX xnames (.inr "InvalidWeb") tabX_InvalidWeb,
  kitsX xnames (.inl "KeyError") tabX_KeyError]
def cs2 : List Chk := [kitsX xnames (.inl "LookupError") tabX_LookupError,
  kitsX xnames (.inr "NothingToUndo") tabX_NothingToUndo,
  kitsX xnames (.inl "OverflowError") tabX_OverflowError,
  kitsX xnames (.inr "ParseError") tabX_ParseError,
  kitsX xnames (.inr "Refused") tabX_Refused,
  kitsX xnames (.inl "RuntimeError") tabX_RuntimeError,
  kitsX xnames (.inr "SeamError") tabX_SeamError,
  kitsX xnames (.inr "TooMany") tabX_TooMany,
  kitsX xnames (.inr "UnknownName") tabX_UnknownName,
  kitsX xnames (.inl "ValueError") tabX_ValueError,
  sysB,
  exmVB "InvalidRecord" "SeamError" true,
  exmVB "Refused" "Refused" true,
  exmVB "Refused" "SeamError" false,
  exmVB "TooMany" "Refused" false,
  exmVB "TooMany" "SeamError" false,
  exmVB "TooMany" "TooMany" true,
  err0B "SeamError" "ValueError.__new__" [.type "ValueError", .type "Exception", .type "BaseException", .type "object"],
  err0B "InvalidPlace" "ValueError.__new__" [.type "ValueError", .type "Exception", .type "BaseException", .type "object"],
  err0B "InvalidTie" "ValueError.__new__" [.type "ValueError", .type "Exception", .type "BaseException", .type "object"],
  err0B "InvalidWeb" "ValueError.__new__" [.type "ValueError", .type "Exception", .type "BaseException", .type "object"],
  err0B "InvalidPiece" "ValueError.__new__" [.type "ValueError", .type "Exception", .type "BaseException", .type "object"],
  err0B "InvalidBuilding" "ValueError.__new__" [.type "ValueError", .type "Exception", .type "BaseException", .type "object"],
  err0B "InvalidPath" "ValueError.__new__" [.type "ValueError", .type "Exception", .type "BaseException", .type "object"],
  err0B "InvalidSaying" "ValueError.__new__" [.type "ValueError", .type "Exception", .type "BaseException", .type "object"],
  err0B "InvalidChoices" "ValueError.__new__" [.type "ValueError", .type "Exception", .type "BaseException", .type "object"],
  err0B "InvalidSchedule" "ValueError.__new__" [.type "ValueError", .type "Exception", .type "BaseException", .type "object"],
  err0B "InvalidRecord" "ValueError.__new__" [.type "ValueError", .type "Exception", .type "BaseException", .type "object"],
  err0B "InvalidTable" "ValueError.__new__" [.type "ValueError", .type "Exception", .type "BaseException", .type "object"],
  err0B "InvalidSurrounding" "ValueError.__new__" [.type "ValueError", .type "Exception", .type "BaseException", .type "object"]]
def cs3 : List Chk := [err0B "InvalidOperation" "ValueError.__new__" [.type "ValueError", .type "Exception", .type "BaseException", .type "object"],
  gloB "_law_dice",
  gloB "_law_made_all",
  gloB "_law_letters_of",
  gloB "_law_kinds_of",
  gloB "_law_all_of",
  gloB "_law_kept",
  gloB "_law_caught",
  gloB "_law_right",
  gloB "_law_roll",
  gloB "_law_pick",
  gloB "law",
  errB "ParseError" "number" "ValueError" "ValueError.__init__" "ValueError.__new__" [.type "ValueError", .type "Exception", .type "BaseException", .type "object"] PySem.Challenge.rw_seamsayings_k01_errors_and_what_they_kee.prog.main.file,
  errB "UnknownName" "name" "KeyError" "KeyError.__init__" "LookupError.__new__" [.type "KeyError", .type "LookupError", .type "Exception", .type "BaseException", .type "object"] PySem.Challenge.rw_seamsayings_k01_errors_and_what_they_kee.prog.main.file,
  errB "InvalidNumber" "value" "IndexError" "IndexError.__init__" "IndexError.__new__" [.type "IndexError", .type "LookupError", .type "Exception", .type "BaseException", .type "object"] PySem.Challenge.rw_seamsayings_k01_errors_and_what_they_kee.prog.main.file,
  errB "NothingToUndo" "many" "RuntimeError" "RuntimeError.__init__" "RuntimeError.__new__" [.type "RuntimeError", .type "Exception", .type "BaseException", .type "object"] PySem.Challenge.rw_seamsayings_k01_errors_and_what_they_kee.prog.main.file,
  errB "TooMany" "limit" "OverflowError" "OverflowError.__init__" "OverflowError.__new__" [.type "OverflowError", .type "ArithmeticError", .type "Exception", .type "BaseException", .type "object"] PySem.Challenge.rw_seamsayings_k01_errors_and_what_they_kee.prog.main.file,
  errB "Refused" "pledge" "ArithmeticError" "ArithmeticError.__init__" "ArithmeticError.__new__" [.type "ArithmeticError", .type "Exception", .type "BaseException", .type "object"] PySem.Challenge.rw_seamsayings_k01_errors_and_what_they_kee.prog.main.file]
def cs : List Chk := cs0 ++ cs1 ++ cs2 ++ cs3
abbrev hk : PySem.W.Hook := hookS 5 cs fns fcs tabs
def ob (s : PySem.W.SharedT) : AlM := obsSG 5 cs fns fcs tabs (HandSHeadRun.getT s)
theorem ob_eq (s : PySem.W.SharedT) : ob s = hk.obs s.abs := obsSG_eq (HandSHeadRun.getT_eq s)
def clOf (K : PySem.W.Frag) (n : Nat) : Addr := He.ga K (xnames.getD n "")
abbrev wd (K : PySem.W.Frag) : Wd := ⟨K, clOf K⟩
theorem tx {K : PySem.W.Frag} {hp : Heap} {mg : Str → Option Value} {wo : World} (X : K.In hp) (G : hp.Ns mainGlobals mg) (c : SaysM cs fns tabs wo K) : Tx K mg wo (wd K) where
  hK := rfl
  cok := ⟨fun cc hc => by
      match cc, hc with

      | n + 0, hc => exact absurd hc (by omega), fun cc hc => by
      match cc, hc with

      | n + 0, hc => exact absurd hc (by omega)⟩
  n_ArithmeticError := He.free_ok X G (c.fact 0)
  n_IndexError := He.free_ok X G (c.fact 1)
  n_KeyError := He.free_ok X G (c.fact 2)
  n_LookupError := He.free_ok X G (c.fact 3)
  n_OverflowError := He.free_ok X G (c.fact 4)
  n_RuntimeError := He.free_ok X G (c.fact 5)
  n_ValueError := He.free_ok X G (c.fact 6)
  n_abs := He.free_ok X G (c.fact 7)
  n_int := He.free_ok X G (c.fact 8)
  n_isinstance := He.free_ok X G (c.fact 9)
  n_len := He.free_ok X G (c.fact 10)
  n_max := He.free_ok X G (c.fact 11)
  n_min := He.free_ok X G (c.fact 12)
  n_range := He.free_ok X G (c.fact 13)
  n_repr := He.free_ok X G (c.fact 14)
  c_InvalidBuilding := He.glo_ok X G (c.fact 15)
  c_InvalidChoices := He.glo_ok X G (c.fact 16)
  c_InvalidNumber := He.glo_ok X G (c.fact 17)
  c_InvalidOperation := He.glo_ok X G (c.fact 18)
  c_InvalidPath := He.glo_ok X G (c.fact 19)
  c_InvalidPiece := He.glo_ok X G (c.fact 20)
  c_InvalidPlace := He.glo_ok X G (c.fact 21)
  c_InvalidRecord := He.glo_ok X G (c.fact 22)
  c_InvalidSaying := He.glo_ok X G (c.fact 23)
  c_InvalidSchedule := He.glo_ok X G (c.fact 24)
  c_InvalidSurrounding := He.glo_ok X G (c.fact 25)
  c_InvalidTable := He.glo_ok X G (c.fact 26)
  c_InvalidTie := He.glo_ok X G (c.fact 27)
  c_InvalidWeb := He.glo_ok X G (c.fact 28)
  c_NothingToUndo := He.glo_ok X G (c.fact 29)
  c_ParseError := He.glo_ok X G (c.fact 30)
  c_Refused := He.glo_ok X G (c.fact 31)
  c_SeamError := He.glo_ok X G (c.fact 32)
  c_TooMany := He.glo_ok X G (c.fact 33)
  c_UnknownName := He.glo_ok X G (c.fact 34)
  n_super := He.free_ok X G (c.fact 35)
  k_ParseError := clkB_ok (c.fact 36)
  k_UnknownName := clkB_ok (c.fact 37)
  k_InvalidNumber := clkB_ok (c.fact 38)
  k_NothingToUndo := clkB_ok (c.fact 39)
  k_TooMany := clkB_ok (c.fact 40)
  k_Refused := clkB_ok (c.fact 41)
  xi_ArithmeticError := fun cc b e => ⟨xcksB_ok (c.fact 42) (tab_lt (t := tabX_ArithmeticError) rfl e), (kitB_ok (kitsX_ok (names := xnames) (u := (.inl "ArithmeticError")) (tab := tabX_ArithmeticError) (c.fact 43) rfl e))⟩
  xi_IndexError := fun cc b e => ⟨xcksB_ok (c.fact 42) (tab_lt (t := tabX_IndexError) rfl e), (kitB_ok (kitsX_ok (names := xnames) (u := (.inl "IndexError")) (tab := tabX_IndexError) (c.fact 44) rfl e))⟩
  xi_InvalidBuilding := fun cc b e => ⟨xcksB_ok (c.fact 42) (tab_lt (t := tabX_InvalidBuilding) rfl e), (kitB_ok (kitsX_ok (names := xnames) (u := (.inr "InvalidBuilding")) (tab := tabX_InvalidBuilding) (c.fact 45) rfl e))⟩
  xi_InvalidChoices := fun cc b e => ⟨xcksB_ok (c.fact 42) (tab_lt (t := tabX_InvalidChoices) rfl e), (kitB_ok (kitsX_ok (names := xnames) (u := (.inr "InvalidChoices")) (tab := tabX_InvalidChoices) (c.fact 46) rfl e))⟩
  xi_InvalidNumber := fun cc b e => ⟨xcksB_ok (c.fact 42) (tab_lt (t := tabX_InvalidNumber) rfl e), (kitB_ok (kitsX_ok (names := xnames) (u := (.inr "InvalidNumber")) (tab := tabX_InvalidNumber) (c.fact 47) rfl e))⟩
  xi_InvalidOperation := fun cc b e => ⟨xcksB_ok (c.fact 42) (tab_lt (t := tabX_InvalidOperation) rfl e), (kitB_ok (kitsX_ok (names := xnames) (u := (.inr "InvalidOperation")) (tab := tabX_InvalidOperation) (c.fact 48) rfl e))⟩
  xi_InvalidPath := fun cc b e => ⟨xcksB_ok (c.fact 42) (tab_lt (t := tabX_InvalidPath) rfl e), (kitB_ok (kitsX_ok (names := xnames) (u := (.inr "InvalidPath")) (tab := tabX_InvalidPath) (c.fact 49) rfl e))⟩
  xi_InvalidPiece := fun cc b e => ⟨xcksB_ok (c.fact 42) (tab_lt (t := tabX_InvalidPiece) rfl e), (kitB_ok (kitsX_ok (names := xnames) (u := (.inr "InvalidPiece")) (tab := tabX_InvalidPiece) (c.fact 50) rfl e))⟩
  xi_InvalidPlace := fun cc b e => ⟨xcksB_ok (c.fact 42) (tab_lt (t := tabX_InvalidPlace) rfl e), (kitB_ok (kitsX_ok (names := xnames) (u := (.inr "InvalidPlace")) (tab := tabX_InvalidPlace) (c.fact 51) rfl e))⟩
  xi_InvalidRecord := fun cc b e => ⟨xcksB_ok (c.fact 42) (tab_lt (t := tabX_InvalidRecord) rfl e), (kitB_ok (kitsX_ok (names := xnames) (u := (.inr "InvalidRecord")) (tab := tabX_InvalidRecord) (c.fact 52) rfl e))⟩
  xi_InvalidSaying := fun cc b e => ⟨xcksB_ok (c.fact 42) (tab_lt (t := tabX_InvalidSaying) rfl e), (kitB_ok (kitsX_ok (names := xnames) (u := (.inr "InvalidSaying")) (tab := tabX_InvalidSaying) (c.fact 53) rfl e))⟩
  xi_InvalidSchedule := fun cc b e => ⟨xcksB_ok (c.fact 42) (tab_lt (t := tabX_InvalidSchedule) rfl e), (kitB_ok (kitsX_ok (names := xnames) (u := (.inr "InvalidSchedule")) (tab := tabX_InvalidSchedule) (c.fact 54) rfl e))⟩
  xi_InvalidSurrounding := fun cc b e => ⟨xcksB_ok (c.fact 42) (tab_lt (t := tabX_InvalidSurrounding) rfl e), (kitB_ok (kitsX_ok (names := xnames) (u := (.inr "InvalidSurrounding")) (tab := tabX_InvalidSurrounding) (c.fact 55) rfl e))⟩
  xi_InvalidTable := fun cc b e => ⟨xcksB_ok (c.fact 42) (tab_lt (t := tabX_InvalidTable) rfl e), (kitB_ok (kitsX_ok (names := xnames) (u := (.inr "InvalidTable")) (tab := tabX_InvalidTable) (c.fact 56) rfl e))⟩
  xi_InvalidTie := fun cc b e => ⟨xcksB_ok (c.fact 42) (tab_lt (t := tabX_InvalidTie) rfl e), (kitB_ok (kitsX_ok (names := xnames) (u := (.inr "InvalidTie")) (tab := tabX_InvalidTie) (c.fact 57) rfl e))⟩
  xi_InvalidWeb := fun cc b e => ⟨xcksB_ok (c.fact 42) (tab_lt (t := tabX_InvalidWeb) rfl e), (kitB_ok (kitsX_ok (names := xnames) (u := (.inr "InvalidWeb")) (tab := tabX_InvalidWeb) (c.fact 58) rfl e))⟩
  xi_KeyError := fun cc b e => ⟨xcksB_ok (c.fact 42) (tab_lt (t := tabX_KeyError) rfl e), (kitB_ok (kitsX_ok (names := xnames) (u := (.inl "KeyError")) (tab := tabX_KeyError) (c.fact 59) rfl e))⟩
  xi_LookupError := fun cc b e => ⟨xcksB_ok (c.fact 42) (tab_lt (t := tabX_LookupError) rfl e), (kitB_ok (kitsX_ok (names := xnames) (u := (.inl "LookupError")) (tab := tabX_LookupError) (c.fact 60) rfl e))⟩
  xi_NothingToUndo := fun cc b e => ⟨xcksB_ok (c.fact 42) (tab_lt (t := tabX_NothingToUndo) rfl e), (kitB_ok (kitsX_ok (names := xnames) (u := (.inr "NothingToUndo")) (tab := tabX_NothingToUndo) (c.fact 61) rfl e))⟩
  xi_OverflowError := fun cc b e => ⟨xcksB_ok (c.fact 42) (tab_lt (t := tabX_OverflowError) rfl e), (kitB_ok (kitsX_ok (names := xnames) (u := (.inl "OverflowError")) (tab := tabX_OverflowError) (c.fact 62) rfl e))⟩
  xi_ParseError := fun cc b e => ⟨xcksB_ok (c.fact 42) (tab_lt (t := tabX_ParseError) rfl e), (kitB_ok (kitsX_ok (names := xnames) (u := (.inr "ParseError")) (tab := tabX_ParseError) (c.fact 63) rfl e))⟩
  xi_Refused := fun cc b e => ⟨xcksB_ok (c.fact 42) (tab_lt (t := tabX_Refused) rfl e), (kitB_ok (kitsX_ok (names := xnames) (u := (.inr "Refused")) (tab := tabX_Refused) (c.fact 64) rfl e))⟩
  xi_RuntimeError := fun cc b e => ⟨xcksB_ok (c.fact 42) (tab_lt (t := tabX_RuntimeError) rfl e), (kitB_ok (kitsX_ok (names := xnames) (u := (.inl "RuntimeError")) (tab := tabX_RuntimeError) (c.fact 65) rfl e))⟩
  xi_SeamError := fun cc b e => ⟨xcksB_ok (c.fact 42) (tab_lt (t := tabX_SeamError) rfl e), (kitB_ok (kitsX_ok (names := xnames) (u := (.inr "SeamError")) (tab := tabX_SeamError) (c.fact 66) rfl e))⟩
  xi_TooMany := fun cc b e => ⟨xcksB_ok (c.fact 42) (tab_lt (t := tabX_TooMany) rfl e), (kitB_ok (kitsX_ok (names := xnames) (u := (.inr "TooMany")) (tab := tabX_TooMany) (c.fact 67) rfl e))⟩
  xi_UnknownName := fun cc b e => ⟨xcksB_ok (c.fact 42) (tab_lt (t := tabX_UnknownName) rfl e), (kitB_ok (kitsX_ok (names := xnames) (u := (.inr "UnknownName")) (tab := tabX_UnknownName) (c.fact 68) rfl e))⟩
  xi_ValueError := fun cc b e => ⟨xcksB_ok (c.fact 42) (tab_lt (t := tabX_ValueError) rfl e), (kitB_ok (kitsX_ok (names := xnames) (u := (.inl "ValueError")) (tab := tabX_ValueError) (c.fact 69) rfl e))⟩
  xk := fun cc hc => xcksB_ok (c.fact 42) hc
  sys := (c.fact 70)
  em_InvalidRecord_SeamError := exmVB_ok (c.fact 71)
  em_Refused_Refused := exmVB_ok (c.fact 72)
  em_Refused_SeamError := exmVB_ok (c.fact 73)
  em_TooMany_Refused := exmVB_ok (c.fact 74)
  em_TooMany_SeamError := exmVB_ok (c.fact 75)
  em_TooMany_TooMany := exmVB_ok (c.fact 76)
  x0_SeamError := err0B_ok (c.fact 77)
  x0_InvalidPlace := err0B_ok (c.fact 78)
  x0_InvalidTie := err0B_ok (c.fact 79)
  x0_InvalidWeb := err0B_ok (c.fact 80)
  x0_InvalidPiece := err0B_ok (c.fact 81)
  x0_InvalidBuilding := err0B_ok (c.fact 82)
  x0_InvalidPath := err0B_ok (c.fact 83)
  x0_InvalidSaying := err0B_ok (c.fact 84)
  x0_InvalidChoices := err0B_ok (c.fact 85)
  x0_InvalidSchedule := err0B_ok (c.fact 86)
  x0_InvalidRecord := err0B_ok (c.fact 87)
  x0_InvalidTable := err0B_ok (c.fact 88)
  x0_InvalidSurrounding := err0B_ok (c.fact 89)
  x0_InvalidOperation := err0B_ok (c.fact 90)
  f_l_dice := by
      obtain ⟨fd, F⟩ := c.def_ 0
      exact ⟨_, fd, F, He.glo_ok X G (c.fact 91)⟩
  f_l_made_all := by
      obtain ⟨fd, F⟩ := c.def_ 1
      exact ⟨_, fd, F, He.glo_ok X G (c.fact 92)⟩
  f_l_letters_of := by
      obtain ⟨fd, F⟩ := c.def_ 2
      exact ⟨_, fd, F, He.glo_ok X G (c.fact 93)⟩
  f_l_kinds_of := by
      obtain ⟨fd, F⟩ := c.def_ 3
      exact ⟨_, fd, F, He.glo_ok X G (c.fact 94)⟩
  f_l_all_of := by
      obtain ⟨fd, F⟩ := c.def_ 4
      exact ⟨_, fd, F, He.glo_ok X G (c.fact 95)⟩
  f_l_kept := by
      obtain ⟨fd, F⟩ := c.def_ 5
      exact ⟨_, fd, F, He.glo_ok X G (c.fact 96)⟩
  f_l_caught := by
      obtain ⟨fd, F⟩ := c.def_ 6
      exact ⟨_, fd, F, He.glo_ok X G (c.fact 97)⟩
  f_l_right := by
      obtain ⟨fd, F⟩ := c.def_ 7
      exact ⟨_, fd, F, He.glo_ok X G (c.fact 98)⟩
  f_l_roll := by
      obtain ⟨fd, F⟩ := c.def_ 8
      exact ⟨_, fd, F, He.glo_ok X G (c.fact 99)⟩
  f_l_pick := by
      obtain ⟨fd, F⟩ := c.def_ 9
      exact ⟨_, fd, F, He.glo_ok X G (c.fact 100)⟩
  f_lawX := by
      obtain ⟨fd, F⟩ := c.def_ 10
      exact ⟨_, fd, F, He.glo_ok X G (c.fact 101)⟩
theorem ss_ParseError : SupS PySem.Challenge.rw_seamsayings_k01_errors_and_what_they_kee.prog si_ParseError sb_ParseError ("ParseError" ++ ".__init__") PySem.Challenge.rw_seamsayings_k01_errors_and_what_they_kee.prog.main.file := ⟨rfl, rfl, by decide +kernel, rfl, rfl, rfl, by decide +kernel, rfl, rfl, rfl, rfl, by decide +kernel, beq_self_eq_true _, fun _ _ _ _ _ _ _ us hl => match us, hl with | [_, _], _ => rfl, fun _ _ _ _ => rfl, fun _ _ _ _ => rfl, fun _ _ _ _ => rfl, fun _ _ _ _ => ⟨_, rfl⟩, by decide +kernel, by decide +kernel⟩
theorem ss_UnknownName : SupS PySem.Challenge.rw_seamsayings_k01_errors_and_what_they_kee.prog si_UnknownName sb_UnknownName ("UnknownName" ++ ".__init__") PySem.Challenge.rw_seamsayings_k01_errors_and_what_they_kee.prog.main.file := ⟨rfl, rfl, by decide +kernel, rfl, rfl, rfl, by decide +kernel, rfl, rfl, rfl, rfl, by decide +kernel, beq_self_eq_true _, fun _ _ _ _ _ _ _ us hl => match us, hl with | [_, _], _ => rfl, fun _ _ _ _ => rfl, fun _ _ _ _ => rfl, fun _ _ _ _ => rfl, fun _ _ _ _ => ⟨_, rfl⟩, by decide +kernel, by decide +kernel⟩
theorem ss_InvalidNumber : SupS PySem.Challenge.rw_seamsayings_k01_errors_and_what_they_kee.prog si_InvalidNumber sb_InvalidNumber ("InvalidNumber" ++ ".__init__") PySem.Challenge.rw_seamsayings_k01_errors_and_what_they_kee.prog.main.file := ⟨rfl, rfl, by decide +kernel, rfl, rfl, rfl, by decide +kernel, rfl, rfl, rfl, rfl, by decide +kernel, beq_self_eq_true _, fun _ _ _ _ _ _ _ us hl => match us, hl with | [_, _], _ => rfl, fun _ _ _ _ => rfl, fun _ _ _ _ => rfl, fun _ _ _ _ => rfl, fun _ _ _ _ => ⟨_, rfl⟩, by decide +kernel, by decide +kernel⟩
theorem ss_NothingToUndo : SupS PySem.Challenge.rw_seamsayings_k01_errors_and_what_they_kee.prog si_NothingToUndo sb_NothingToUndo ("NothingToUndo" ++ ".__init__") PySem.Challenge.rw_seamsayings_k01_errors_and_what_they_kee.prog.main.file := ⟨rfl, rfl, by decide +kernel, rfl, rfl, rfl, by decide +kernel, rfl, rfl, rfl, rfl, by decide +kernel, beq_self_eq_true _, fun _ _ _ _ _ _ _ us hl => match us, hl with | [_, _], _ => rfl, fun _ _ _ _ => rfl, fun _ _ _ _ => rfl, fun _ _ _ _ => rfl, fun _ _ _ _ => ⟨_, rfl⟩, by decide +kernel, by decide +kernel⟩
theorem ss_TooMany : SupS PySem.Challenge.rw_seamsayings_k01_errors_and_what_they_kee.prog si_TooMany sb_TooMany ("TooMany" ++ ".__init__") PySem.Challenge.rw_seamsayings_k01_errors_and_what_they_kee.prog.main.file := ⟨rfl, rfl, by decide +kernel, rfl, rfl, rfl, by decide +kernel, rfl, rfl, rfl, rfl, by decide +kernel, beq_self_eq_true _, fun _ _ _ _ _ _ _ us hl => match us, hl with | [_, _], _ => rfl, fun _ _ _ _ => rfl, fun _ _ _ _ => rfl, fun _ _ _ _ => rfl, fun _ _ _ _ => ⟨_, rfl⟩, by decide +kernel, by decide +kernel⟩
theorem ss_Refused : SupS PySem.Challenge.rw_seamsayings_k01_errors_and_what_they_kee.prog si_Refused sb_Refused ("Refused" ++ ".__init__") PySem.Challenge.rw_seamsayings_k01_errors_and_what_they_kee.prog.main.file := ⟨rfl, rfl, by decide +kernel, rfl, rfl, rfl, by decide +kernel, rfl, rfl, rfl, rfl, by decide +kernel, beq_self_eq_true _, fun _ _ _ _ _ _ _ us hl => match us, hl with | [_, _], _ => rfl, fun _ _ _ _ => rfl, fun _ _ _ _ => rfl, fun _ _ _ _ => rfl, fun _ _ _ _ => ⟨_, rfl⟩, by decide +kernel, by decide +kernel⟩
theorem txp {K : PySem.W.Frag} {wo : World} (c : SaysX cs fns fcs tabs wo K) : TxP PySem.Challenge.rw_seamsayings_k01_errors_and_what_they_kee.prog K (wd K) where
  x_ParseError := err_ok ss_ParseError rfl (c.m.1.fact 102) (c.cl 0).1 (c.cl 0).2 PySem.W.kxs_ValueError (iniF_of PySem.F.excBase_ValueError) (newF_of PySem.F.excBase_ValueError) PySem.F.store_ValueError.passes
  x_UnknownName := err_ok ss_UnknownName rfl (c.m.1.fact 103) (c.cl 1).1 (c.cl 1).2 kxs_KeyError ini_KeyError new_KeyError lets_KeyError
  x_InvalidNumber := err_ok ss_InvalidNumber rfl (c.m.1.fact 104) (c.cl 2).1 (c.cl 2).2 PySem.W.kxs_IndexError (iniF_of PySem.F.excBase_IndexError) (newF_of PySem.F.excBase_IndexError) PySem.F.store_IndexError.passes
  x_NothingToUndo := err_ok ss_NothingToUndo rfl (c.m.1.fact 105) (c.cl 3).1 (c.cl 3).2 PySem.W.kxs_RuntimeError (iniF_of PySem.F.excBase_RuntimeError) (newF_of PySem.F.excBase_RuntimeError) PySem.F.store_RuntimeError.passes
  x_TooMany := err_ok ss_TooMany rfl (c.m.1.fact 106) (c.cl 4).1 (c.cl 4).2 PySem.W.kxs_OverflowError (iniF_of PySem.F.excBase_OverflowError) (newF_of PySem.F.excBase_OverflowError) PySem.F.store_OverflowError.passes
  x_Refused := err_ok ss_Refused rfl (c.m.1.fact 107) (c.cl 5).1 (c.cl 5).2 PySem.W.kxs_ArithmeticError (iniF_of PySem.F.excBase_ArithmeticError) (newF_of PySem.F.excBase_ArithmeticError) PySem.F.store_ArithmeticError.passes
set_option maxHeartbeats 0 in
theorem runF (w : World) : HandSHeadRun.RunEq R (PySem.W.view R.prog [32]) hk ob 8000 names (w.withFollow "special-get-raises" false) := by
  intro os
  kernel_rfl
set_option maxHeartbeats 0 in
theorem runT (w : World) : HandSHeadRun.RunEq R (PySem.W.view R.prog [32]) hk ob 8000 names (w.withFollow "special-get-raises" true) := by
  intro os
  kernel_rfl
theorem run (w : World) : HandSHeadRun.RunEq R (PySem.W.view R.prog [32]) hk ob 8000 names w := PySem.W.byRow2 "special-get-raises" (P := fun w => HandSHeadRun.RunEq R (PySem.W.view R.prog [32]) hk ob 8000 names w) runF runT w
end PM.G

namespace PM.G
open PySem PySem.Spec L2 PM
open PySem.PyData (strOk)
theorem lenT (x : List D) : lenD (.tup x) = some (dI (x.length : Nat)) := rfl
theorem lenL (x : List D) : lenD (.lst x) = some (dI (x.length : Nat)) := rfl
theorem lenSc (x : List D) : lenD (.scr x) = some (dI (x.length : Nat)) := rfl
theorem len_app (a b : Str) : (a ++ b).length = a.length + b.length := by
  show (a.cps ++ b.cps).size = a.cps.size + b.cps.size
  exact Array.size_append
theorem strOk_app {a b : Str} (h : strOk a = true) (h' : strOk b = true) : strOk (a ++ b) = true := by
  show ((a.cps ++ b.cps).all _) = true
  rw [Array.all_append]
  exact Bool.and_eq_true_iff.mpr ⟨h, h'⟩
theorem pyOk_str {x : Str} (h : strOk x = true) : pyOk (.str x) = some (.str x) := by
  unfold pyOk
  simp only [toPy, Option.bind_some]
  rw [if_pos]
  unfold SeqAt.shaped
  simp only [PyData.canLay0, PyData.depth, h, Bool.true_and]
  rfl
theorem eqD_str {x y : Str} (h : strOk x = true) (h' : strOk y = true) : eqD (.str x) (.str y) = some (dB (x == y)) := by
  unfold eqD
  rw [pyOk_str h, pyOk_str h']
  rfl
theorem neD_str {x y : Str} (h : strOk x = true) (h' : strOk y = true) : neD (.str x) (.str y) = some (dB (!(x == y))) := by
  unfold neD
  rw [pyOk_str h, pyOk_str h']
  rfl
theorem big : sizeLine = 16777216 := rfl
theorem at0 {α : Type} (x : α) (xs : List α) : atI (x :: xs) 0 = some x := by simp [atI, ixN]
theorem at1 {α : Type} (x y : α) (xs : List α) : atI (x :: y :: xs) 1 = some y := by
  have : (1 : Int) < (xs.length : Int) + 1 + 1 := by omega
  simp [atI, ixN, this]
theorem at2 {α : Type} (x y z : α) (xs : List α) : atI (x :: y :: z :: xs) 2 = some z := by
  have : (2 : Int) < (xs.length : Int) + 1 + 1 + 1 := by omega
  simp [atI, ixN, this]
theorem app_str (a b : Str) : Str.empty ++ a = a := by
  show Str.append _ _ = _
  unfold Str.append Str.empty
  simp
theorem l0 : Str.empty.length = 0 := rfl
theorem emp (a : Str) : Str.empty ++ a = a := app_str a a
theorem int2_int (g : Int → Int → Vl) (i j : Int) : int2 g (.int i) (.int j) = some (g i j) := rfl
theorem lc_run {j : Nat} {me : ME} {f : D → Vl} : ∀ (ds acc : List D) (ρ : En), acc.length + ds.length ≤ sizeLine → notIo (ρ[j]?) = true → wipeE ρ [j] = ρ → (∀ d ∈ ds, me (ρ.set j (.val d)) = .ok (f d) (ρ.set j (.val d))) →
    mLcLoop (gN j) [j] mYes me ds acc ρ = .ok (acc ++ ds.map fun d => (f d).1) ρ
  | [], acc, ρ, _, _, _, _ => by simp [mLcLoop]
  | d :: ds, acc, ρ, hl, hi, hw, h => by
    have h1 := h d (by simp)
    have hl' : acc.length + (ds.length + 1) ≤ sizeLine := hl
    have w2 : wipeE (ρ.set j (.val d)) [j] = ρ := by
      have e : wipeE (ρ.set j (.val d)) [j] = (ρ.set j (.val d)).set j .non := rfl
      rw [e, List.set_set]
      exact hw
    have g1 : gN j d ρ = some (ρ.set j (.val d)) := by
      unfold gN setV
      rw [if_pos hi]
    unfold mLcLoop
    simp only [g1, mYes, if_true, h1]
    rw [if_pos (by omega), w2, lc_run ds (acc ++ [(f d).1]) ρ (by simp; omega) hi hw fun x hx => h x (by simp [hx])]
    simp
theorem ne_self {x : Str} (h : strOk x = true) : neD (.str x) (.str x) = some (dB false) := by rw [neD_str h h, beq_self_eq_true]; rfl
theorem eq_self {x : Str} (h : strOk x = true) : eqD (.str x) (.str x) = some (dB true) := by rw [eqD_str h h, beq_self_eq_true]
theorem ne_nil2 : neD (.lst []) (.lst []) = some (dB false) := by
  have e : pyOk (.lst []) = some (.list []) := by
    unfold pyOk
    simp only [toPy, toPyL, Option.bind_some, Option.map_some]
    rw [if_pos]
    rfl
  unfold neD
  rw [e]
  rfl
theorem leI_int (i j : Int) : leI (.int i) (.int j) = some (dB (decide (i ≤ j))) := rfl
theorem ltI_int (i j : Int) : ltI (.int i) (.int j) = some (dB (decide (i < j))) := rfl
theorem gtI_int (i j : Int) : gtI (.int i) (.int j) = some (dB (decide (j < i))) := rfl
theorem cps_app (a b : Str) : (a ++ b).cps.toList = a.cps.toList ++ b.cps.toList := by
  show (a.cps ++ b.cps).toList = _
  simp
def DiceK (k : Nat) (m : Mu) : Prop := ∃ a b c : Int, m = .lst [.int a, .int b, .int c] ∧ 0 ≤ a ∧ a < 10 ^ 121 ∧ 0 ≤ b ∧ b < 2 ^ 90 ∧ 0 ≤ c ∧ c ≤ k
theorem lg {n k : Nat} (h : n < 2 ^ k) (hk : 0 < k) : n.log2 < k := by
  by_cases e : n = 0
  · subst e
    exact hk
  · exact (Nat.log2_lt e).mpr h
theorem mul_ok {i j : Int} (hi : i.natAbs < 2 ^ 400) (hj : j.natAbs < 2 ^ 400) : mulD (.int i) (.int j) = some (dI (i * j)) := by
  have h1 := lg hi (by decide)
  have h2 := lg hj (by decide)
  unfold mulD int2c
  simp only
  rw [if_pos]
  unfold mulC
  exact decide_eq_true (by omega)
theorem mod_ok {i j : Int} (h : 0 < j) : modD (.int i) (.int j) = some (dI (i % j)) := by
  unfold modD int2c
  simp only
  rw [if_pos]
  exact decide_eq_true h
theorem div_ok {i j : Int} (h : 0 < j) (hj : j.natAbs < 2 ^ 400) : divD (.int i) (.int j) = some (dI (i / j)) := by
  have h2 := lg hj (by decide)
  unfold divD int2c
  simp only
  rw [if_pos]
  exact decide_eq_true ⟨h, by omega⟩
theorem n30 : ixN 3 0 = some 0 := rfl
theorem n31 : ixN 3 1 = some 1 := rfl
theorem n32 : ixN 3 2 = some 2 := rfl
theorem roll_ok (m : Mu) (k : Nat) (t : Int) (ht : 0 < t) (ht2 : t < 2 ^ 250) (hk : k ≤ 1000000) (h : DiceK k m) : ∃ r m', fn_l_roll (some m) [.int t] = .ret (.int r, false) (some m') ∧ 0 ≤ r ∧ r < t ∧ DiceK (k + 1) m' := by
  obtain ⟨a, b, c, rfl, ha, ha2, hb, hb2, hc, hc2⟩ := h
  have d1 := div_ok (i := a) ht (by omega)
  have m1 := mod_ok (i := a) ht
  by_cases pos : 0 < a
  · have g : decide ((0 : Int) < a) = true := decide_eq_true pos
    refine ⟨a % t, .lst [.int (a / t), .int b, .int c], ?_, Int.emod_nonneg _ (by omega), Int.emod_lt_of_pos _ ht, a / t, b, c, rfl, ?_, ?_, hb, hb2, hc, by omega⟩
    · simp only [fn_l_roll, m_l_roll, mItemO, mBehind, mSetItem, at0, at1, at2, n30, gtI_int, g, m1, d1, noX, fnSem, en0, pre0, ioOf, mSeq, mIfS, mRet, mRetN, mAsg, mAsgO, mExpr, mNext, mDead, mTest, mAnd, mOr, mNot, mIf, mAndV, mOrV, mNotV, notD, mChain, mOp1, mOp2, mC, mVar, mCall, mCons, mNil, mTup, mLst, mStar, mCallV, mCallD, mPar, mAsgG, gT, gTs, gN, setV, notIo, nxt, Rs.bind, lift, asB, one1, two1, ixD, addD, subD, lenT, lenL, lenSc, tupD, intD, eq0, dI, dB, dS, List.length_cons, List.length_nil, List.map_cons, List.map_nil, List.append_nil, List.nil_append, List.cons_append, List.getElem?_cons_zero, List.getElem?_cons_succ, List.set_cons_zero, List.set_cons_succ, List.replicate, Option.bind_some, Option.map_some, Option.bind, Nat.zero_add, Nat.add_zero, Nat.reduceAdd, Nat.reduceSub, Nat.reduceEqDiff, if_true, if_false, reduceIte, Bool.false_eq_true, Bool.not_true, Bool.not_false, Nat.reduceLT, decide_true, decide_false, mSetF, clsAt, fldS, muOf, Sl.get, Sl.put, putD, mSetFs, fldsT, fldsS, allS, mMake, mMakeL, mCm, fnN, mJs, itSeq, mMeth, beq_self_eq_true, and_self, List.isEmpty_nil, List.isEmpty_cons, Option.map, big, Nat.reduceLeDiff, Nat.zero_le, Nat.le_refl]
    · exact Int.ediv_nonneg ha (by omega)
    · exact Int.lt_of_le_of_lt (Int.ediv_le_self _ ha) ha2
  · have g : decide ((0 : Int) < a) = false := decide_eq_false pos
    have e1 : mulD (.int 49979687) (.int (c + 1)) = some (dI (49979687 * (c + 1))) := mul_ok (by decide) (by omega)
    have e2 : modD (.int (b + 49979687 * (c + 1))) (.int 2305843009213693669) = some (dI ((b + 49979687 * (c + 1)) % 2305843009213693669)) := mod_ok (by decide)
    have o0 : 0 ≤ (b + 49979687 * (c + 1)) % 2305843009213693669 := Int.emod_nonneg _ (by decide)
    have o1 : (b + 49979687 * (c + 1)) % 2305843009213693669 < 2305843009213693669 := Int.emod_lt_of_pos _ (by decide)
    generalize (b + 49979687 * (c + 1)) % 2305843009213693669 = one at e2 o0 o1
    have e3 : mulD (.int one) (.int one) = some (dI (one * one)) := mul_ok (by omega) (by omega)
    have e4 : mulD (.int 89) (.int (c + 1)) = some (dI (89 * (c + 1))) := mul_ok (by decide) (by omega)
    have e5 : modD (.int (one * one + 89 * (c + 1))) (.int 2305843009213693907) = some (dI ((one * one + 89 * (c + 1)) % 2305843009213693907)) := mod_ok (by decide)
    have p0 : 0 ≤ (one * one + 89 * (c + 1)) % 2305843009213693907 := Int.emod_nonneg _ (by decide)
    have p1 : (one * one + 89 * (c + 1)) % 2305843009213693907 < 2305843009213693907 := Int.emod_lt_of_pos _ (by decide)
    generalize (one * one + 89 * (c + 1)) % 2305843009213693907 = pp at e5 p0 p1
    have e6 : mulD (.int pp) (.int 7368791) = some (dI (pp * 7368791)) := mul_ok (by omega) (by decide)
    have e7 : divD (.int (pp * 7368791 + one)) (.int 65536) = some (dI ((pp * 7368791 + one) / 65536)) := div_ok (by decide) (by decide)
    have e8 : modD (.int ((pp * 7368791 + one) / 65536)) (.int t) = some (dI ((pp * 7368791 + one) / 65536 % t)) := mod_ok ht
    refine ⟨(pp * 7368791 + one) / 65536 % t, .lst [.int a, .int b, .int (c + 1)], ?_, Int.emod_nonneg _ (by omega), Int.emod_lt_of_pos _ ht, a, b, c + 1, rfl, ha, ha2, hb, hb2, by omega, by omega⟩
    simp only [fn_l_roll, m_l_roll, mItemO, mBehind, mSetItem, at0, at1, at2, n32, gtI_int, g, e1, e2, e3, e4, e5, e6, e7, e8, noX, fnSem, en0, pre0, ioOf, mSeq, mIfS, mRet, mRetN, mAsg, mAsgO, mExpr, mNext, mDead, mTest, mAnd, mOr, mNot, mIf, mAndV, mOrV, mNotV, notD, mChain, mOp1, mOp2, mC, mVar, mCall, mCons, mNil, mTup, mLst, mStar, mCallV, mCallD, mPar, mAsgG, gT, gTs, gN, setV, notIo, nxt, Rs.bind, lift, asB, one1, two1, ixD, addD, subD, lenT, lenL, lenSc, tupD, intD, eq0, dI, dB, dS, List.length_cons, List.length_nil, List.map_cons, List.map_nil, List.append_nil, List.nil_append, List.cons_append, List.getElem?_cons_zero, List.getElem?_cons_succ, List.set_cons_zero, List.set_cons_succ, List.replicate, Option.bind_some, Option.map_some, Option.bind, Nat.zero_add, Nat.add_zero, Nat.reduceAdd, Nat.reduceSub, Nat.reduceEqDiff, if_true, if_false, reduceIte, Bool.false_eq_true, Bool.not_true, Bool.not_false, Nat.reduceLT, decide_true, decide_false, mSetF, clsAt, fldS, muOf, Sl.get, Sl.put, putD, mSetFs, fldsT, fldsS, allS, mMake, mMakeL, mCm, fnN, mJs, itSeq, mMeth, beq_self_eq_true, and_self, List.isEmpty_nil, List.isEmpty_cons, Option.map, big, Nat.reduceLeDiff, Nat.zero_le, Nat.le_refl]
theorem eqI (i j : Int) : eqD (.int i) (.int j) = some (dB (i == j)) := rfl
theorem pick_ok (m : Mu) (k : Nat) (xs : List D) (h0 : xs ≠ []) (hl : xs.length ≤ 1000) (hk : k ≤ 1000000) (hd : DiceK k m) : ∃ d m', d ∈ xs ∧ fn_l_pick (some m) [.lst xs] = .ret (d, false) (some m') ∧ DiceK (k + 1) m' := by
  have lp : 0 < xs.length := List.length_pos_iff.mpr h0
  obtain ⟨r, m1, e, r0, r1, d⟩ := roll_ok m k (xs.length : Nat) (by omega) (by omega) hk hd
  obtain ⟨c, hc⟩ := Int.eq_ofNat_of_zero_le r0
  subst hc
  have lt : c < xs.length := by omega
  have ea : atI xs (c : Int) = some xs[c] := by
    unfold atI ixN
    rw [if_pos (by omega), if_pos (by omega)]
    simp [lt]
  refine ⟨xs[c], m1, List.getElem_mem lt, ?_, d⟩
  simp only [fn_l_pick, m_l_pick, e, ea, noX, fnSem, en0, pre0, ioOf, mSeq, mIfS, mRet, mRetN, mAsg, mAsgO, mExpr, mNext, mDead, mTest, mAnd, mOr, mNot, mIf, mAndV, mOrV, mNotV, notD, mChain, mOp1, mOp2, mC, mVar, mCall, mCons, mNil, mTup, mLst, mStar, mCallV, mCallD, mPar, mAsgG, gT, gTs, gN, setV, notIo, nxt, Rs.bind, lift, asB, one1, two1, ixD, addD, subD, lenT, lenL, lenSc, tupD, intD, eq0, dI, dB, dS, List.length_cons, List.length_nil, List.map_cons, List.map_nil, List.append_nil, List.nil_append, List.cons_append, List.getElem?_cons_zero, List.getElem?_cons_succ, List.set_cons_zero, List.set_cons_succ, List.replicate, Option.bind_some, Option.map_some, Option.bind, Nat.zero_add, Nat.add_zero, Nat.reduceAdd, Nat.reduceSub, Nat.reduceEqDiff, if_true, if_false, reduceIte, Bool.false_eq_true, Bool.not_true, Bool.not_false, Nat.reduceLT, decide_true, decide_false, mSetF, clsAt, fldS, muOf, Sl.get, Sl.put, putD, mSetFs, fldsT, fldsS, allS, mMake, mMakeL, mCm, fnN, mJs, itSeq, mMeth, beq_self_eq_true, and_self, List.isEmpty_nil, List.isEmpty_cons, Option.map, big, Nat.reduceLeDiff, Nat.zero_le, Nat.le_refl]
def nIo (s : Sl) : Bool := notIo (some s)
theorem neB (b : Bool) : neD (.bl b) (.bl b) = some (dB false) := by cases b <;> rfl
theorem eqB_ (b : Bool) : eqD (.bl b) (.bl b) = some (dB true) := by cases b <;> rfl
theorem pow_ok {i j : Int} (h : 0 ≤ j) (h1 : j ≤ 1000000) (h2 : i.natAbs < 2 ^ 64) : powD (.int i) (.int j) = some (dI (i ^ j.toNat)) := by
  unfold powD int2c
  simp only
  rw [if_pos]
  exact decide_eq_true ⟨h, h1, h2⟩
theorem p16 : powD (.int 10) (.int 16) = some (dI (10 ^ 16)) := pow_ok (by decide) (by decide) (by decide)
theorem p60 : powD (.int 10) (.int 60) = some (dI (10 ^ 60)) := pow_ok (by decide) (by decide) (by decide)
theorem pm120 : mulD (.int (10 ^ 60)) (.int (10 ^ 60)) = some (dI (10 ^ 60 * 10 ^ 60)) := mul_ok (by decide) (by decide)
theorem abs_eq (i : Int) : absD (.int i) = some (dI (if i < 0 then -i else i)) := rfl
theorem maxD_int (i j : Int) : maxD (.int i) (.int j) = some (dI (if j > i then j else i)) := rfl
theorem minD_int (i j : Int) : minD (.int i) (.int j) = some (dI (if j < i then j else i)) := rfl
theorem intB_ (b : Bool) : intD (.bl b) = some (dI (if b then 1 else 0)) := rfl
theorem dice_core (ns : List D) (s : Nat) (hs : s < 63) (x : Int) (hx : (mIf (mTest (mOp2 ltI (mVar 1) (mCall (one1 lenD) (mCons (mVar 0) mNil)))) (mCall (one1 intD) (mCons (mOp2 ixD (mVar 0) (mVar 1)) mNil)) (mOp2 addD (mOp2 mulD (mC (.int 61)) (mVar 1)) (mC (.int 17)))) [.val (.scr ns), .val (.int s), .non, .non] = .ok (.int x, false) [.val (.scr ns), .val (.int s), .non, .non]) :
    ∃ m, fn_l_dice none [.scr ns, .int s] = .ret (.lst m, true) none ∧ DiceK 0 (.lst m) := by
  have a0 : 0 ≤ (if x < 0 then -x else x) := by split <;> omega
  generalize ea : (if x < 0 then -x else x) = ax at a0
  have e1 := abs_eq x
  rw [ea] at e1
  generalize em : (if ax - 10 ^ 16 > 0 then ax - 10 ^ 16 else 0) = mx
  have e2 := maxD_int 0 (ax - 10 ^ 16)
  rw [em] at e2
  have e3 : modD (.int mx) (.int (10 ^ 60 * 10 ^ 60)) = some (dI (mx % (10 ^ 60 * 10 ^ 60))) := mod_ok (by decide)
  have c0 : 0 ≤ mx % (10 ^ 60 * 10 ^ 60) := Int.emod_nonneg _ (by decide)
  have c1 : mx % (10 ^ 60 * 10 ^ 60) < 10 ^ 60 * 10 ^ 60 := Int.emod_lt_of_pos _ (by decide)
  generalize mx % (10 ^ 60 * 10 ^ 60) = cx at e3 c0 c1
  have e4 : modD (.int ax) (.int 1152921504606846869) = some (dI (ax % 1152921504606846869)) := mod_ok (by decide)
  have d0 : 0 ≤ ax % 1152921504606846869 := Int.emod_nonneg _ (by decide)
  have d1 : ax % 1152921504606846869 < 1152921504606846869 := Int.emod_lt_of_pos _ (by decide)
  generalize ax % 1152921504606846869 = dx at e4 d0 d1
  have e5 : mulD (.int dx) (.int 43) = some (dI (dx * 43)) := mul_ok (by omega) (by decide)
  have e6 : mulD (.int 811) (.int s) = some (dI (811 * (s : Int))) := mul_ok (by decide) (by omega)
  have e7 := intB_ (decide (x < 0))
  have e8 : mulD (.int 29) (.int (if decide (x < 0) = true then 1 else 0)) = some (dI (29 * (if decide (x < 0) = true then 1 else 0))) := mul_ok (by decide) (by split <;> decide)
  generalize ez : (29 * (if decide (x < 0) = true then 1 else 0) : Int) = zx at e8
  have z0 : 0 ≤ zx ∧ zx ≤ 29 := by
    rw [← ez]
    split <;> omega
  refine ⟨[.int cx, .int (dx * 43 + 811 * (s : Int) + zx + 5), .int 0], ?_, cx, dx * 43 + 811 * (s : Int) + zx + 5, 0, rfl, c0, ?_, by omega, by omega, by decide, by decide⟩
  · have st : (mAsg 2 (mIf (mTest (mOp2 ltI (mVar 1) (mCall (one1 lenD) (mCons (mVar 0) mNil)))) (mCall (one1 intD) (mCons (mOp2 ixD (mVar 0) (mVar 1)) mNil)) (mOp2 addD (mOp2 mulD (mC (.int 61)) (mVar 1)) (mC (.int 17))))) [.val (.scr ns), .val (.int s), .non, .non] = .ok .nx [.val (.scr ns), .val (.int s), .val (.int x), .non] := by
      unfold mAsg
      rw [hx]
      rfl
    have body : m_l_dice [.val (.scr ns), .val (.int s), .non, .non] = .ok (.rt (.lst [.int cx, .int (dx * 43 + 811 * (s : Int) + zx + 5), .int 0], true)) [.val (.scr ns), .val (.int s), .val (.int x), .val (.int cx)] := by
      unfold m_l_dice mSeq
      rw [st]
      simp only [e1, e2, e3, e4, e5, e6, e7, e8, p16, p60, pm120, ltI_int, int2_int, noX, fnSem, en0, pre0, ioOf, mSeq, mIfS, mRet, mRetN, mAsg, mAsgO, mExpr, mNext, mDead, mTest, mAnd, mOr, mNot, mIf, mAndV, mOrV, mNotV, notD, mChain, mOp1, mOp2, mC, mVar, mCall, mCons, mNil, mTup, mLst, mStar, mCallV, mCallD, mPar, mAsgG, gT, gTs, gN, setV, notIo, nxt, Rs.bind, lift, asB, one1, two1, ixD, addD, subD, lenT, lenL, lenSc, tupD, intD, eq0, dI, dB, dS, List.length_cons, List.length_nil, List.map_cons, List.map_nil, List.append_nil, List.nil_append, List.cons_append, List.getElem?_cons_zero, List.getElem?_cons_succ, List.set_cons_zero, List.set_cons_succ, List.replicate, Option.bind_some, Option.map_some, Option.bind, Nat.zero_add, Nat.add_zero, Nat.reduceAdd, Nat.reduceSub, Nat.reduceEqDiff, if_true, if_false, reduceIte, Bool.false_eq_true, Bool.not_true, Bool.not_false, Nat.reduceLT, decide_true, decide_false, mSetF, clsAt, fldS, muOf, Sl.get, Sl.put, putD, mSetFs, fldsT, fldsS, allS, mMake, mMakeL, mCm, fnN, mJs, itSeq, mMeth, beq_self_eq_true, and_self, List.isEmpty_nil, List.isEmpty_cons, Option.map, big, Nat.reduceLeDiff, Nat.zero_le, Nat.le_refl]
    simp only [fn_l_dice, body, noX, fnSem, en0, pre0, ioOf, mSeq, mIfS, mRet, mRetN, mAsg, mAsgO, mExpr, mNext, mDead, mTest, mAnd, mOr, mNot, mIf, mAndV, mOrV, mNotV, notD, mChain, mOp1, mOp2, mC, mVar, mCall, mCons, mNil, mTup, mLst, mStar, mCallV, mCallD, mPar, mAsgG, gT, gTs, gN, setV, notIo, nxt, Rs.bind, lift, asB, one1, two1, ixD, addD, subD, lenT, lenL, lenSc, tupD, intD, eq0, dI, dB, dS, List.length_cons, List.length_nil, List.map_cons, List.map_nil, List.append_nil, List.nil_append, List.cons_append, List.getElem?_cons_zero, List.getElem?_cons_succ, List.set_cons_zero, List.set_cons_succ, List.replicate, Option.bind_some, Option.map_some, Option.bind, Nat.zero_add, Nat.add_zero, Nat.reduceAdd, Nat.reduceSub, Nat.reduceEqDiff, if_true, if_false, reduceIte, Bool.false_eq_true, Bool.not_true, Bool.not_false, Nat.reduceLT, decide_true, decide_false, mSetF, clsAt, fldS, muOf, Sl.get, Sl.put, putD, mSetFs, fldsT, fldsS, allS, mMake, mMakeL, mCm, fnN, mJs, itSeq, mMeth, beq_self_eq_true, and_self, List.isEmpty_nil, List.isEmpty_cons, Option.map, big, Nat.reduceLeDiff, Nat.zero_le, Nat.le_refl]
  · have : (10 ^ 60 * 10 ^ 60 : Int) ≤ 10 ^ 121 := by decide
    omega
theorem dice_ok (ns : List Int) (s : Nat) (hs : s < 63) : ∃ m, fn_l_dice none [.scr (ns.map D.int), .int s] = .ret (.lst m, true) none ∧ DiceK 0 (.lst m) := by
  by_cases h : s < ns.length
  · refine dice_core _ s hs ns[s] ?_
    have d : decide ((s : Int) < ((ns.map D.int).length : Nat)) = true := decide_eq_true (by rw [List.length_map]; omega)
    have ea : atI (ns.map D.int) (s : Int) = some (.int ns[s]) := by
      unfold atI ixN
      rw [if_pos (by omega), if_pos (by rw [List.length_map]; omega)]
      simp [h]
    simp only [ltI_int, d, ea, noX, fnSem, en0, pre0, ioOf, mSeq, mIfS, mRet, mRetN, mAsg, mAsgO, mExpr, mNext, mDead, mTest, mAnd, mOr, mNot, mIf, mAndV, mOrV, mNotV, notD, mChain, mOp1, mOp2, mC, mVar, mCall, mCons, mNil, mTup, mLst, mStar, mCallV, mCallD, mPar, mAsgG, gT, gTs, gN, setV, notIo, nxt, Rs.bind, lift, asB, one1, two1, ixD, addD, subD, lenT, lenL, lenSc, tupD, intD, eq0, dI, dB, dS, List.length_cons, List.length_nil, List.map_cons, List.map_nil, List.append_nil, List.nil_append, List.cons_append, List.getElem?_cons_zero, List.getElem?_cons_succ, List.set_cons_zero, List.set_cons_succ, List.replicate, Option.bind_some, Option.map_some, Option.bind, Nat.zero_add, Nat.add_zero, Nat.reduceAdd, Nat.reduceSub, Nat.reduceEqDiff, if_true, if_false, reduceIte, Bool.false_eq_true, Bool.not_true, Bool.not_false, Nat.reduceLT, decide_true, decide_false, mSetF, clsAt, fldS, muOf, Sl.get, Sl.put, putD, mSetFs, fldsT, fldsS, allS, mMake, mMakeL, mCm, fnN, mJs, itSeq, mMeth, beq_self_eq_true, and_self, List.isEmpty_nil, List.isEmpty_cons, Option.map, big, Nat.reduceLeDiff, Nat.zero_le, Nat.le_refl]
  · refine dice_core _ s hs (61 * (s : Int) + 17) ?_
    have d : decide ((s : Int) < ((ns.map D.int).length : Nat)) = false := decide_eq_false (by rw [List.length_map]; omega)
    have e : mulD (.int 61) (.int s) = some (dI (61 * (s : Int))) := mul_ok (by decide) (by omega)
    simp only [ltI_int, d, e, noX, fnSem, en0, pre0, ioOf, mSeq, mIfS, mRet, mRetN, mAsg, mAsgO, mExpr, mNext, mDead, mTest, mAnd, mOr, mNot, mIf, mAndV, mOrV, mNotV, notD, mChain, mOp1, mOp2, mC, mVar, mCall, mCons, mNil, mTup, mLst, mStar, mCallV, mCallD, mPar, mAsgG, gT, gTs, gN, setV, notIo, nxt, Rs.bind, lift, asB, one1, two1, ixD, addD, subD, lenT, lenL, lenSc, tupD, intD, eq0, dI, dB, dS, List.length_cons, List.length_nil, List.map_cons, List.map_nil, List.append_nil, List.nil_append, List.cons_append, List.getElem?_cons_zero, List.getElem?_cons_succ, List.set_cons_zero, List.set_cons_succ, List.replicate, Option.bind_some, Option.map_some, Option.bind, Nat.zero_add, Nat.add_zero, Nat.reduceAdd, Nat.reduceSub, Nat.reduceEqDiff, if_true, if_false, reduceIte, Bool.false_eq_true, Bool.not_true, Bool.not_false, Nat.reduceLT, decide_true, decide_false, mSetF, clsAt, fldS, muOf, Sl.get, Sl.put, putD, mSetFs, fldsT, fldsS, allS, mMake, mMakeL, mCm, fnN, mJs, itSeq, mMeth, beq_self_eq_true, and_self, List.isEmpty_nil, List.isEmpty_cons, Option.map, big, Nat.reduceLeDiff, Nat.zero_le, Nat.le_refl]
theorem nio_v (d : D) : notIo (some (.val d)) = true := rfl
theorem subI (i j : Int) : subD (.int i) (.int j) = some (dI (i - j)) := rfl
theorem nio_n : notIo (some .non) = true := rfl
theorem nio_o (m : Mu) : notIo (some (.own m)) = true := rfl
theorem bls_map (f : D → Bool) : ∀ ds : List D, blsD (ds.map fun d => .bl (f d)) = some (ds.map f)
  | [] => rfl
  | d :: ds => by simp only [List.map_cons, blsD, bls_map f ds, Option.map_some]
theorem append_eq (i : Nat) (mr : MA) (ρ : En) : mAppend i mr ρ = (mBehind i mr fun ys s m ρ1 => match m, ys with
  | .lst ds, [y] => if ds.length < sizeLine then .ok (.non, false) (ρ1.set i (s.put (.lst (ds ++ [y])))) else .stuck
  | _, _ => .stuck) ρ := rfl
theorem rng1_ok (i : Int) (h : 0 ≤ i) (h' : i < 1000) : rng1 [.int i] = some (rgL 0 i.toNat) := by
  show (if -(2 ^ 62) ≤ i ∧ i < 2 ^ 62 then some (rgL 0 i.toNat) else none) = _
  rw [if_pos ⟨by omega, by omega⟩]
theorem DiceK.mono {k k' : Nat} {m : Mu} (h : DiceK k m) (e : k ≤ k') : DiceK k' m := by
  obtain ⟨a, b, c, rfl, q1, q2, q3, q4, q5, q6⟩ := h
  exact ⟨a, b, c, rfl, q1, q2, q3, q4, q5, by omega⟩
theorem neI (i : Int) : neD (.int i) (.int i) = some (dB false) := by
  show some (dB (!(i == i))) = _
  simp
end PM.G

namespace PM.G
open PySem PySem.Spec L2 PM
def vals : List D := [.non, .bl true, .int 0, .str "7", .str "", .tup [.int 4, .int 6], .lst [.int 7], .dct [.int 7] [.int 7], .tup [.tup [], .tup [.str "a", .int 1]], .str "tie a b", .int (10 ^ 40), .tup [.str "holds", .str "x"]]
def ixs : List D := [.non, .int 0, .int 3, .int (10 ^ 30)]
abbrev due (v i : D) : D := .lst [.tup [.str "P seam value", i], .tup [.str "U key lookup", v], .tup [.str "N index lookup", v], .tup [.str "Z runtime", v], .tup [.str "M overflow arithmetic", v], .tup [.str "R arithmetic", v]]
abbrev told (t : Str) : D := .lst [.str "base j", .str ("refused " ++ t), .str ("many " ++ t)]
def chk (v i : D) : Bool := match reprX v, reprX (due v i) with
  | some (.str t, false), some (.str s, false) => (pyOk (.str s)).isSome && ((pyOk (told t)).isSome && decide (t.length ≤ 1000))
  | _, _ => false
theorem chk_0 : (ixs.all fun i => chk (.non) i) = true := by kernel_rfl
theorem chk_1 : (ixs.all fun i => chk (.bl true) i) = true := by kernel_rfl
theorem chk_2 : (ixs.all fun i => chk (.int 0) i) = true := by kernel_rfl
theorem chk_3 : (ixs.all fun i => chk (.str "7") i) = true := by kernel_rfl
theorem chk_4 : (ixs.all fun i => chk (.str "") i) = true := by kernel_rfl
theorem chk_5 : (ixs.all fun i => chk (.tup [.int 4, .int 6]) i) = true := by kernel_rfl
theorem chk_6 : (ixs.all fun i => chk (.lst [.int 7]) i) = true := by kernel_rfl
theorem chk_7 : (ixs.all fun i => chk (.dct [.int 7] [.int 7]) i) = true := by kernel_rfl
theorem chk_8 : (ixs.all fun i => chk (.tup [.tup [], .tup [.str "a", .int 1]]) i) = true := by kernel_rfl
theorem chk_9 : (ixs.all fun i => chk (.str "tie a b") i) = true := by kernel_rfl
theorem chk_10 : (ixs.all fun i => chk (.int (10 ^ 40)) i) = true := by kernel_rfl
theorem chk_11 : (ixs.all fun i => chk (.tup [.str "holds", .str "x"]) i) = true := by kernel_rfl
theorem chk_v (v : D) (hv : v ∈ vals) : (ixs.all fun i => chk v i) = true := by
  simp only [vals, List.mem_cons, List.not_mem_nil, or_false] at hv
  rcases hv with rfl | rfl | rfl | rfl | rfl | rfl | rfl | rfl | rfl | rfl | rfl | rfl
  · exact chk_0
  · exact chk_1
  · exact chk_2
  · exact chk_3
  · exact chk_4
  · exact chk_5
  · exact chk_6
  · exact chk_7
  · exact chk_8
  · exact chk_9
  · exact chk_10
  · exact chk_11
theorem chk_vi (v i : D) (hv : v ∈ vals) (hi : i ∈ ixs) : chk v i = true := List.all_eq_true.mp (chk_v v hv) i hi
theorem eq_selfP {d : D} (h : (pyOk d).isSome = true) : eqD d d = some (dB true) := by
  obtain ⟨p, e⟩ := Option.isSome_iff_exists.mp h
  unfold eqD
  rw [e]
  simp only [Option.bind_some, Option.map_some, SeqAt.eqv_refl p (SeqAt.canLay_of_shaped (pyOk_some e).2)]
theorem ne_selfP {d : D} (h : (pyOk d).isSome = true) : neD d d = some (dB false) := by
  obtain ⟨p, e⟩ := Option.isSome_iff_exists.mp h
  unfold neD
  rw [e]
  simp only [Option.bind_some, Option.map_some, SeqAt.eqv_refl p (SeqAt.canLay_of_shaped (pyOk_some e).2)]
  rfl
abbrev L13 : D := .lst [.str "a seam value", .str "b seam value", .str "c seam value", .str "d seam value", .str "e seam value", .str "f seam value", .str "g seam value", .str "h seam value", .str "i seam value", .str "j seam value", .str "k seam value", .str "l seam value", .str "m seam value"]
abbrev abc : Str := "abcdefghijklm"
theorem ne13 : neD L13 L13 = some (dB false) := by kernel_rfl
theorem c0_ok (v i : D) : c_l_right_0 [.val v, .val i, .val (.str abc), .non, .non, .non, .non, .non] = .ok (L13, true) [.val v, .val i, .val (.str abc), .non, .non, .non, .non, .non] := by kernel_rfl
theorem c1_ok (v i : D) : c_l_right_1 [.val v, .val i, .val (.str abc), .non, .non, .non, .non, .non] = .ok (L13, true) [.val v, .val i, .val (.str abc), .non, .non, .non, .non, .non] := by kernel_rfl
theorem kept_ok (v i : D) : fn_l_kept none [v, i] = .ret (due v i, true) none := by kernel_rfl
theorem seam_ok : fn_l_all_of none [.exn 6 [] []] = .ret (.str " seam value", false) none := by kernel_rfl
theorem seam_ne : neD (.str " seam value") (.str " seam value") = some (dB false) := ne_selfP (by kernel_rfl)
theorem caught0 (v : D) : fn_l_caught none [v, .int 0] = .ret (.str "base j", false) none := by kernel_rfl
theorem eq10 : eqD (.int 1) (.int 0) = some (dB false) := by kernel_rfl
theorem eq11 : eqD (.int 1) (.int 1) = some (dB true) := by kernel_rfl
theorem eq20 : eqD (.int 2) (.int 0) = some (dB false) := by kernel_rfl
theorem eq21 : eqD (.int 2) (.int 1) = some (dB false) := by kernel_rfl
theorem caught1 (v : D) : fn_l_caught none [v, .int 1] = noX (fun _ _ => match mTxt 2 (repTxt "refused " v) [.val v, .val (.int 1), .non] with
    | .ok (.rt x) _ => (.ret x none : Fs)
    | .ok .nx _ => .ret (.non, false) none
    | .exc x _ => .exc x none
    | _ => .stuck) none [] := by kernel_rfl
theorem caught2 (v : D) : fn_l_caught none [v, .int 2] = noX (fun _ _ => match mTxt 2 (repTxt "many " v) [.val v, .val (.int 2), .non] with
    | .ok (.rt x) _ => (.ret x none : Fs)
    | .ok .nx _ => .ret (.non, false) none
    | .exc x _ => .exc x none
    | _ => .stuck) none [] := by kernel_rfl
theorem rep_txt {v : D} {t : Str} (z : Str) (h : reprX v = some (.str t, false)) (hl : z.length + t.length ≤ sizeLine) : repTxt z v = some (z ++ t) := by
  unfold repTxt
  rw [h]
  simp only
  rw [if_pos hl]
theorem caught1_ok {v : D} {t : Str} (h : reprX v = some (.str t, false)) (hl : t.length ≤ 1000) : fn_l_caught none [v, .int 1] = .ret (.str ("refused " ++ t), false) none := by
  have e : ("refused " : Str).length = 8 := by kernel_rfl
  rw [caught1, rep_txt _ h (by rw [e]; unfold sizeLine; omega)]
  rfl
theorem caught2_ok {v : D} {t : Str} (h : reprX v = some (.str t, false)) (hl : t.length ≤ 1000) : fn_l_caught none [v, .int 2] = .ret (.str ("many " ++ t), false) none := by
  have e : ("many " : Str).length = 5 := by kernel_rfl
  rw [caught2, rep_txt _ h (by rw [e]; unfold sizeLine; omega)]
  rfl
end PM.G

namespace PM.G
open PySem PySem.Spec L2 PM
theorem seq_nx {a b : MS} {ρ ρ1 : En} (h : a ρ = .ok .nx ρ1) : mSeq a b ρ = b ρ1 := by
  unfold mSeq
  rw [h]
abbrev r2 (s3 s4 : Sl) (v i : D) : En := [.val v, .val i, .val (.str abc), s3, s4, .non, .non, .non]
theorem st1 (v i : D) : (mAsg 2 (mC (.str "abcdefghijklm"))) [.val v, .val i, .non, .non, .non, .non, .non, .non] = .ok .nx (r2 .non .non v i) := rfl
abbrev q2 (c0 c1 : ME) : MS := (mIfS (mTest (mOp2 neD c0 c1)) (mRet (mC (.bl false))) mNext)
theorem st2 (v i : D) {c0 c1 : ME} (e0 : c0 (r2 .non .non v i) = .ok (L13, true) (r2 .non .non v i)) (e1 : c1 (r2 .non .non v i) = .ok (L13, true) (r2 .non .non v i)) (e2 : neD L13 L13 = some (dB false)) : q2 c0 c1 (r2 .non .non v i) = .ok .nx (r2 .non .non v i) := by
  unfold r2 at *
  simp only [e0, e1, e2, noX, fnSem, en0, pre0, ioOf, mSeq, mIfS, mRet, mRetN, mAsg, mAsgO, mExpr, mNext, mDead, mTest, mAnd, mOr, mNot, mIf, mAndV, mOrV, mNotV, notD, mChain, mOp1, mOp2, mC, mVar, mCall, mCons, mNil, mTup, mLst, mStar, mCallV, mCallD, mPar, mAsgG, gT, gTs, gN, setV, notIo, nxt, Rs.bind, lift, asB, one1, two1, ixD, addD, subD, lenT, lenL, lenSc, tupD, intD, eq0, dI, dB, dS, List.length_cons, List.length_nil, List.map_cons, List.map_nil, List.append_nil, List.nil_append, List.cons_append, List.getElem?_cons_zero, List.getElem?_cons_succ, List.set_cons_zero, List.set_cons_succ, List.replicate, Option.bind_some, Option.map_some, Option.bind, Nat.zero_add, Nat.add_zero, Nat.reduceAdd, Nat.reduceSub, Nat.reduceEqDiff, if_true, if_false, reduceIte, Bool.false_eq_true, Bool.not_true, Bool.not_false, Nat.reduceLT, decide_true, decide_false, mSetF, clsAt, fldS, muOf, Sl.get, Sl.put, putD, mSetFs, fldsT, fldsS, allS, mMake, mMakeL, mCm, fnN, mJs, itSeq, mMeth, beq_self_eq_true, and_self, List.isEmpty_nil, List.isEmpty_cons, Option.map, big, Nat.reduceLeDiff, Nat.zero_le, Nat.le_refl]
abbrev due4 (v i : D) : D := .lst [.tup [.str "P seam value", i], .tup [.str "U key lookup", v], .tup [.str "N index lookup", v], .tup [.str "Z runtime", v]]
theorem st3 (v i : D) : (mAsg 3 (mLst (mCons (mTup (mCons (mC (.str "P seam value")) (mCons (mVar 1) mNil))) (mCons (mTup (mCons (mC (.str "U key lookup")) (mCons (mVar 0) mNil))) (mCons (mTup (mCons (mC (.str "N index lookup")) (mCons (mVar 0) mNil))) (mCons (mTup (mCons (mC (.str "Z runtime")) (mCons (mVar 0) mNil))) mNil)))))) (r2 .non .non v i) = .ok .nx (r2 (.val (due4 v i)) .non v i) := rfl
theorem st4 (v i : D) : (mAsg 3 (mOp2 addD (mVar 3) (mLst (mCons (mTup (mCons (mC (.str "M overflow arithmetic")) (mCons (mVar 0) mNil))) (mCons (mTup (mCons (mC (.str "R arithmetic")) (mCons (mVar 0) mNil))) mNil))))) (r2 (.val (due4 v i)) .non v i) = .ok .nx (r2 (.val (due v i)) .non v i) := by
  unfold r2
  simp only [noX, fnSem, en0, pre0, ioOf, mSeq, mIfS, mRet, mRetN, mAsg, mAsgO, mExpr, mNext, mDead, mTest, mAnd, mOr, mNot, mIf, mAndV, mOrV, mNotV, notD, mChain, mOp1, mOp2, mC, mVar, mCall, mCons, mNil, mTup, mLst, mStar, mCallV, mCallD, mPar, mAsgG, gT, gTs, gN, setV, notIo, nxt, Rs.bind, lift, asB, one1, two1, ixD, addD, subD, lenT, lenL, lenSc, tupD, intD, eq0, dI, dB, dS, List.length_cons, List.length_nil, List.map_cons, List.map_nil, List.append_nil, List.nil_append, List.cons_append, List.getElem?_cons_zero, List.getElem?_cons_succ, List.set_cons_zero, List.set_cons_succ, List.replicate, Option.bind_some, Option.map_some, Option.bind, Nat.zero_add, Nat.add_zero, Nat.reduceAdd, Nat.reduceSub, Nat.reduceEqDiff, if_true, if_false, reduceIte, Bool.false_eq_true, Bool.not_true, Bool.not_false, Nat.reduceLT, decide_true, decide_false, mSetF, clsAt, fldS, muOf, Sl.get, Sl.put, putD, mSetFs, fldsT, fldsS, allS, mMake, mMakeL, mCm, fnN, mJs, itSeq, mMeth, beq_self_eq_true, and_self, List.isEmpty_nil, List.isEmpty_cons, Option.map, big, Nat.reduceLeDiff, Nat.zero_le, Nat.le_refl]
abbrev q5 (fk fa : Fn) : MS := (mIfS (mOr (mTest (mOp2 neD (mCall (one1 reprX) (mCons (mCallV fk (mCons (mVar 0) (mCons (mVar 1) mNil))) mNil)) (mCall (one1 reprX) (mCons (mVar 3) mNil)))) (mTest (mOp2 neD (mCallV fa (mCons (mExn0 6) mNil)) (mC (.str " seam value"))))) (mRet (mC (.bl false))) mNext)
theorem st5 (v i : D) (s : Str) {fk fa : Fn} (e1 : fk none [v, i] = .ret (due v i, true) none) (e2 : fa none [.exn 6 [] []] = .ret (.str " seam value", false) none) (e3 : reprX (due v i) = some (.str s, false)) (e4 : neD (.str s) (.str s) = some (dB false)) (e5 : neD (.str " seam value") (.str " seam value") = some (dB false)) : q5 fk fa (r2 (.val (due v i)) .non v i) = .ok .nx (r2 (.val (due v i)) .non v i) := by
  unfold r2
  simp only [mExn0, e1, e2, e3, e4, e5, noX, fnSem, en0, pre0, ioOf, mSeq, mIfS, mRet, mRetN, mAsg, mAsgO, mExpr, mNext, mDead, mTest, mAnd, mOr, mNot, mIf, mAndV, mOrV, mNotV, notD, mChain, mOp1, mOp2, mC, mVar, mCall, mCons, mNil, mTup, mLst, mStar, mCallV, mCallD, mPar, mAsgG, gT, gTs, gN, setV, notIo, nxt, Rs.bind, lift, asB, one1, two1, ixD, addD, subD, lenT, lenL, lenSc, tupD, intD, eq0, dI, dB, dS, List.length_cons, List.length_nil, List.map_cons, List.map_nil, List.append_nil, List.nil_append, List.cons_append, List.getElem?_cons_zero, List.getElem?_cons_succ, List.set_cons_zero, List.set_cons_succ, List.replicate, Option.bind_some, Option.map_some, Option.bind, Nat.zero_add, Nat.add_zero, Nat.reduceAdd, Nat.reduceSub, Nat.reduceEqDiff, if_true, if_false, reduceIte, Bool.false_eq_true, Bool.not_true, Bool.not_false, Nat.reduceLT, decide_true, decide_false, mSetF, clsAt, fldS, muOf, Sl.get, Sl.put, putD, mSetFs, fldsT, fldsS, allS, mMake, mMakeL, mCm, fnN, mJs, itSeq, mMeth, beq_self_eq_true, and_self, List.isEmpty_nil, List.isEmpty_cons, Option.map, big, Nat.reduceLeDiff, Nat.zero_le, Nat.le_refl]
theorem itA_rng {me : ME} {ρ ρ' : En} {i : Int} {b : Bool} {L : List D} (h : me ρ = .ok (.int i, b) ρ') (rg : rng1 [.int i] = some L) : mItA rng1 (mCons me mNil) ρ = .ok L ρ' := by
  unfold mItA mCons mNil
  rw [h]
  simp only [Rs.bind]
  rw [rg]
  rfl
theorem rng3 (ρ : En) : mItA rng1 (mCons (mC (.int 3)) mNil) ρ = .ok (rgL 0 3) ρ := itA_rng (i := 3) (b := false) rfl (rng1_ok 3 (by decide) (by decide))
theorem rg3 : rgL 0 3 = [.int 0, .int 1, .int 2] := rfl
abbrev q6 (fc : Fn) : MS := (mAsg 4 (mLc (mItA rng1 (mCons (mC (.int 3)) mNil)) [5] (gN 5) mYes (mCallV fc (mCons (mVar 0) (mCons (mVar 5) mNil)))))
theorem st6 (v i d : D) (a b c : D) {fc : Fn} (e0 : fc none [v, .int 0] = .ret (a, false) none) (e1 : fc none [v, .int 1] = .ret (b, false) none) (e2 : fc none [v, .int 2] = .ret (c, false) none) : q6 fc (r2 (.val d) .non v i) = .ok .nx (r2 (.val d) (.val (.lst [a, b, c])) v i) := by
  unfold r2 q6 mLc
  simp only [rng3, rg3, mLcLoop, mYes, wipeE, List.foldl_cons, List.foldl_nil, e0, e1, e2, noX, fnSem, en0, pre0, ioOf, mSeq, mIfS, mRet, mRetN, mAsg, mAsgO, mExpr, mNext, mDead, mTest, mAnd, mOr, mNot, mIf, mAndV, mOrV, mNotV, notD, mChain, mOp1, mOp2, mC, mVar, mCall, mCons, mNil, mTup, mLst, mStar, mCallV, mCallD, mPar, mAsgG, gT, gTs, gN, setV, notIo, nxt, Rs.bind, lift, asB, one1, two1, ixD, addD, subD, lenT, lenL, lenSc, tupD, intD, eq0, dI, dB, dS, List.length_cons, List.length_nil, List.map_cons, List.map_nil, List.append_nil, List.nil_append, List.cons_append, List.getElem?_cons_zero, List.getElem?_cons_succ, List.set_cons_zero, List.set_cons_succ, List.replicate, Option.bind_some, Option.map_some, Option.bind, Nat.zero_add, Nat.add_zero, Nat.reduceAdd, Nat.reduceSub, Nat.reduceEqDiff, if_true, if_false, reduceIte, Bool.false_eq_true, Bool.not_true, Bool.not_false, Nat.reduceLT, decide_true, decide_false, mSetF, clsAt, fldS, muOf, Sl.get, Sl.put, putD, mSetFs, fldsT, fldsS, allS, mMake, mMakeL, mCm, fnN, mJs, itSeq, mMeth, beq_self_eq_true, and_self, List.isEmpty_nil, List.isEmpty_cons, Option.map, big, Nat.reduceLeDiff, Nat.zero_le, Nat.le_refl]
abbrev q7 : MS := (mRet (mOp2 eqD (mVar 4) (mLst (mCons (mC (.str "base j")) (mCons (mOp2 addD (mC (.str "refused ")) (mCall (one1 reprX) (mCons (mVar 0) mNil))) (mCons (mOp2 addD (mC (.str "many ")) (mCall (one1 reprX) (mCons (mVar 0) mNil))) mNil))))))
theorem ln1 : ("refused " : Str).length = 8 := by kernel_rfl
theorem ln2 : ("many " : Str).length = 5 := by kernel_rfl
theorem addS (a b : Str) (h : a.length + b.length ≤ sizeLine) : addD (.str a) (.str b) = some (.str (a ++ b), false) := by
  unfold addD
  simp only
  rw [if_pos h]
  first | done | rfl
theorem st7 (v i d : D) (t : Str) (ht : reprX v = some (.str t, false)) (hl : t.length ≤ 1000) (e : eqD (told t) (told t) = some (dB true)) : q7 (r2 (.val d) (.val (told t)) v i) = .ok (.rt (.bl true, false)) (r2 (.val d) (.val (told t)) v i) := by
  have a1 := addS "refused " t (by rw [ln1]; unfold sizeLine; omega)
  have a2 := addS "many " t (by rw [ln2]; unfold sizeLine; omega)
  unfold r2 told at *
  simp only [ht, a1, a2, e, noX, fnSem, en0, pre0, ioOf, mSeq, mIfS, mRet, mRetN, mAsg, mAsgO, mExpr, mNext, mDead, mTest, mAnd, mOr, mNot, mIf, mAndV, mOrV, mNotV, notD, mChain, mOp1, mOp2, mC, mVar, mCall, mCons, mNil, mTup, mLst, mStar, mCallV, mCallD, mPar, mAsgG, gT, gTs, gN, setV, nio_v, nio_n, nio_o, nxt, Rs.bind, lift, asB, one1, two1, subI, lenT, lenL, lenSc, tupD, intD, eq0, dI, dB, dS, List.length_cons, List.length_nil, List.map_cons, List.map_nil, List.append_nil, List.nil_append, List.cons_append, List.getElem?_cons_zero, List.getElem?_cons_succ, List.set_cons_zero, List.set_cons_succ, List.replicate, Option.bind_some, Option.map_some, Option.bind, Nat.zero_add, Nat.add_zero, Nat.reduceAdd, Nat.reduceSub, Nat.reduceEqDiff, if_true, if_false, reduceIte, Bool.false_eq_true, Bool.not_true, Bool.not_false, Nat.reduceLT, decide_true, decide_false, mSetF, clsAt, fldS, muOf, Sl.get, Sl.put, putD, mSetFs, fldsT, fldsS, allS, mMake, mMakeL, mCm, fnN, mJs, itSeq, mMeth, beq_self_eq_true, and_self, List.isEmpty_nil, List.isEmpty_cons, Option.map, big, Nat.reduceLeDiff, Nat.zero_le, Nat.le_refl, Int.reduceBEq]
theorem key2 (m : MS) (v i : D) : noX (fnSem 8 2 m) none [v, i] = (match (match m [.val v, .val i, .non, .non, .non, .non, .non, .non] with
    | .ok (.rt x) _ => (.ret x none : Fs)
    | .ok .nx _ => .ret (.non, false) none
    | .exc x _ => .exc x none
    | _ => .stuck) with
    | .ret x m => .ret x m
    | _ => .stuck) := rfl
theorem right_ok (v : D) (hv : v ∈ vals) (i : D) (hi : i ∈ ixs) : fn_l_right none [v, i] = .ret (.bl true, false) none := by
  have hc := chk_vi v i hv hi
  unfold chk at hc
  split at hc
  · rename_i t s e1 e2
    obtain ⟨c1, hc⟩ := Bool.and_eq_true_iff.mp hc
    obtain ⟨c2, c3⟩ := Bool.and_eq_true_iff.mp hc
    have c3 := of_decide_eq_true c3
    have e6 : mAsg 4 c_l_right_2 (r2 (.val (due v i)) .non v i) = .ok .nx (r2 (.val (due v i)) (.val (told t)) v i) := by
      unfold c_l_right_2
      exact st6 v i (due v i) _ _ _ (caught0 v) (caught1_ok e1 c3) (caught2_ok e1 c3)
    unfold fn_l_right
    rw [key2]
    unfold m_l_right
    rw [seq_nx (st1 v i), seq_nx (st2 v i (c0_ok v i) (c1_ok v i) ne13), seq_nx (st3 v i), seq_nx (st4 v i), seq_nx (st5 v i s (kept_ok v i) seam_ok e2 (ne_selfP c1) seam_ne), seq_nx e6]
    have e7 := st7 v i (due v i) t e1 c3 (eq_selfP c2)
    unfold q7 at e7
    rw [e7]
  · cases hc
end PM.G

namespace PM.G
open PySem PySem.Spec L2 PM
open PySem.PyData (strOk)
theorem loop_nx {g : MG} {b : MS} {d : D} {ds : List D} {ρ ρ1 ρ2 : En} (h : g d ρ = some ρ1) (h2 : b ρ1 = .ok .nx ρ2) : mLoop g b (d :: ds) ρ = mLoop g b ds ρ2 := by
  conv => lhs; unfold mLoop
  simp only [h, h2]
theorem p40 : powD (.int 10) (.int 40) = some (dI (10 ^ 40)) := pow_ok (by decide) (by decide) (by decide)
theorem p30 : powD (.int 10) (.int 30) = some (dI (10 ^ 30)) := pow_ok (by decide) (by decide) (by decide)
theorem dd7 (ρ : En) : mDisp (fCons (fC (.int 7)) (fC (.int 7)) fNil) ρ = .ok (.dct [.int 7] [.int 7], true) ρ := by
  unfold mDisp
  have e : fCons (fC (.int 7)) (fC (.int 7)) fNil ρ = some ([.int 7], [.int 7]) := rfl
  have kk : kkD [.int 7] = some [.inl 7] := by decide +kernel
  rw [e]
  simp only [kk]
  rfl
abbrev sSome : MS := (mAsg 3 (mLst (mCons (mC .non) (mCons (mC (.bl true)) (mCons (mC (.int 0)) (mCons (mC (.str "7")) (mCons (mC (.str "")) (mCons (mTup (mCons (mC (.int 4)) (mCons (mC (.int 6)) mNil))) (mCons (mLst (mCons (mC (.int 7)) mNil)) (mCons (mDisp (fCons (fC (.int 7)) (fC (.int 7)) fNil)) (mCons (mTup (mCons (mTup mNil) (mCons (mTup (mCons (mC (.str "a")) (mCons (mC (.int 1)) mNil))) mNil))) (mCons (mC (.str "tie a b")) (mCons (mOp2 powD (mC (.int 10)) (mC (.int 40))) (mCons (mTup (mCons (mC (.str "holds")) (mCons (mC (.str "x")) mNil))) mNil))))))))))))))
abbrev sRight (f p : Fn) : MS := (mIfS (mNot (mTest (mCallV f (mCons (mCallD p 2 (mCons (mVar 3) mNil)) (mCons (mCallD p 2 (mCons (mLst (mCons (mC .non) (mCons (mC (.int 0)) (mCons (mC (.int 3)) (mCons (mOp2 powD (mC (.int 10)) (mC (.int 30))) mNil))))) mNil)) mNil))))) (mRet (mC (.bl false))) mNext)
theorem some_st (s0 s1 s2 s3 : Sl) (h3 : nIo s3 = true) : sSome [s0, s1, s2, s3] = .ok .nx [s0, s1, s2, .val (.lst vals)] := by
  have h3 : notIo (some s3) = true := h3
  simp only [dd7, p40, h3, vals, noX, fnSem, en0, pre0, ioOf, mSeq, mIfS, mRet, mRetN, mAsg, mAsgO, mExpr, mNext, mDead, mTest, mAnd, mOr, mNot, mIf, mAndV, mOrV, mNotV, notD, mChain, mOp1, mOp2, mC, mVar, mCall, mCons, mNil, mTup, mLst, mStar, mCallV, mCallD, mPar, mAsgG, gT, gTs, gN, setV, nio_v, nio_n, nio_o, nxt, Rs.bind, lift, asB, one1, two1, ixD, addD, subI, lenT, lenL, lenSc, tupD, intD, eq0, dI, dB, dS, List.length_cons, List.length_nil, List.map_cons, List.map_nil, List.append_nil, List.nil_append, List.cons_append, List.getElem?_cons_zero, List.getElem?_cons_succ, List.set_cons_zero, List.set_cons_succ, List.replicate, Option.bind_some, Option.map_some, Option.bind, Nat.zero_add, Nat.add_zero, Nat.reduceAdd, Nat.reduceSub, Nat.reduceEqDiff, if_true, if_false, reduceIte, Bool.false_eq_true, Bool.not_true, Bool.not_false, Nat.reduceLT, decide_true, decide_false, mSetF, clsAt, fldS, muOf, Sl.get, Sl.put, putD, mSetFs, fldsT, fldsS, allS, mMake, mMakeL, mCm, fnN, mJs, itSeq, mMeth, beq_self_eq_true, and_self, List.isEmpty_nil, List.isEmpty_cons, Option.map, big, Nat.reduceLeDiff, Nat.zero_le, Nat.le_refl]
theorem right_st {f p : Fn} (s0 s1 : Sl) (m m1 m2 : Mu) (v i : D) (xs : List D) (e1 : p (some m) [.lst xs] = .ret (v, false) (some m1)) (e2 : p (some m1) [.lst ixs] = .ret (i, false) (some m2)) (e3 : f none [v, i] = .ret (.bl true, false) none) : sRight f p [s0, s1, .own m, .val (.lst xs)] = .ok .nx [s0, s1, .own m2, .val (.lst xs)] := by
  unfold ixs at e2
  simp only [p30, e1, e2, e3, noX, fnSem, en0, pre0, ioOf, mSeq, mIfS, mRet, mRetN, mAsg, mAsgO, mExpr, mNext, mDead, mTest, mAnd, mOr, mNot, mIf, mAndV, mOrV, mNotV, notD, mChain, mOp1, mOp2, mC, mVar, mCall, mCons, mNil, mTup, mLst, mStar, mCallV, mCallD, mPar, mAsgG, gT, gTs, gN, setV, nio_v, nio_n, nio_o, nxt, Rs.bind, lift, asB, one1, two1, ixD, addD, subI, lenT, lenL, lenSc, tupD, intD, eq0, dI, dB, dS, List.length_cons, List.length_nil, List.map_cons, List.map_nil, List.append_nil, List.nil_append, List.cons_append, List.getElem?_cons_zero, List.getElem?_cons_succ, List.set_cons_zero, List.set_cons_succ, List.replicate, Option.bind_some, Option.map_some, Option.bind, Nat.zero_add, Nat.add_zero, Nat.reduceAdd, Nat.reduceSub, Nat.reduceEqDiff, if_true, if_false, reduceIte, Bool.false_eq_true, Bool.not_true, Bool.not_false, Nat.reduceLT, decide_true, decide_false, mSetF, clsAt, fldS, muOf, Sl.get, Sl.put, putD, mSetFs, fldsT, fldsS, allS, mMake, mMakeL, mCm, fnN, mJs, itSeq, mMeth, beq_self_eq_true, and_self, List.isEmpty_nil, List.isEmpty_cons, Option.map, big, Nat.reduceLeDiff, Nat.zero_le, Nat.le_refl]
theorem dice_st {fd : Fn} (ns : List D) (s : D) (l : List D) (s2 s3 : Sl) (e : fd none [.scr ns, s] = .ret (.lst l, true) none) (h2 : nIo s2 = true) : mAsgO 2 (mCallV fd (mCons (mVar 0) (mCons (mVar 1) mNil))) [.val (.scr ns), .val s, s2, s3] = .ok .nx [.val (.scr ns), .val s, .own (.lst l), s3] := by
  have h2 : notIo (some s2) = true := h2
  simp only [e, h2, setO, toMu, noX, fnSem, en0, pre0, ioOf, mSeq, mIfS, mRet, mRetN, mAsg, mAsgO, mExpr, mNext, mDead, mTest, mAnd, mOr, mNot, mIf, mAndV, mOrV, mNotV, notD, mChain, mOp1, mOp2, mC, mVar, mCall, mCons, mNil, mTup, mLst, mStar, mCallV, mCallD, mPar, mAsgG, gT, gTs, gN, setV, nio_v, nio_n, nio_o, nxt, Rs.bind, lift, asB, one1, two1, ixD, addD, subI, lenT, lenL, lenSc, tupD, intD, eq0, dI, dB, dS, List.length_cons, List.length_nil, List.map_cons, List.map_nil, List.append_nil, List.nil_append, List.cons_append, List.getElem?_cons_zero, List.getElem?_cons_succ, List.set_cons_zero, List.set_cons_succ, List.replicate, Option.bind_some, Option.map_some, Option.bind, Nat.zero_add, Nat.add_zero, Nat.reduceAdd, Nat.reduceSub, Nat.reduceEqDiff, if_true, if_false, reduceIte, Bool.false_eq_true, Bool.not_true, Bool.not_false, Nat.reduceLT, decide_true, decide_false, mSetF, clsAt, fldS, muOf, Sl.get, Sl.put, putD, mSetFs, fldsT, fldsS, allS, mMake, mMakeL, mCm, fnN, mJs, itSeq, mMeth, beq_self_eq_true, and_self, List.isEmpty_nil, List.isEmpty_cons, Option.map, big, Nat.reduceLeDiff, Nat.zero_le, Nat.le_refl]
theorem turn (ns : List Int) (s : Nat) (s2 s3 : Sl) (hs : s < 60) (h2 : nIo s2 = true) (h3 : nIo s3 = true) : ∃ m, mSeq (mAsgO 2 (mCallV fn_l_dice (mCons (mVar 0) (mCons (mVar 1) mNil)))) (mSeq sSome (sRight fn_l_right fn_l_pick)) [.val (.scr (ns.map D.int)), .val (.int (s : Nat)), s2, s3] = .ok .nx [.val (.scr (ns.map D.int)), .val (.int (s : Nat)), .own m, .val (.lst vals)] := by
  obtain ⟨l, ed, dk⟩ := dice_ok ns s (by omega)
  obtain ⟨v, m1, hv, e1, d1⟩ := pick_ok (.lst l) 0 vals (by simp [vals]) (by simp [vals]) (by decide) dk
  obtain ⟨i, m2, hi, e2, d2⟩ := pick_ok m1 1 ixs (by simp [ixs]) (by simp [ixs]) (by decide) d1
  refine ⟨m2, ?_⟩
  rw [seq_nx (dice_st (fd := fn_l_dice) (ns.map D.int) (.int (s : Nat)) l s2 s3 ed h2), seq_nx (some_st _ _ _ s3 h3)]
  exact right_st (f := fn_l_right) (p := fn_l_pick) _ _ (.lst l) m1 m2 v i vals e1 e2 (right_ok v hv i hi)
theorem outer (ns : List Int) : ∀ (n s : Nat) (s1 s2 s3 : Sl), s + n ≤ 60 → nIo s1 = true → nIo s2 = true → nIo s3 = true → ∃ s1' s2' s3', mLoop (gN 1) (mSeq (mAsgO 2 (mCallV fn_l_dice (mCons (mVar 0) (mCons (mVar 1) mNil)))) (mSeq sSome (sRight fn_l_right fn_l_pick))) ((rgL 0 (s + n)).drop s) [.val (.scr (ns.map D.int)), s1, s2, s3] = .ok .nx [.val (.scr (ns.map D.int)), s1', s2', s3']
  | 0, s, s1, s2, s3, _, _, _, _ => ⟨s1, s2, s3, by
    rw [List.drop_eq_nil_of_le (by rw [rgL_length]; omega)]
    rfl⟩
  | n + 1, s, s1, s2, s3, h, h1, h2, h3 => by
    have e0 := rgL_drop 0 (s + (n + 1)) s (by omega)
    have h1' : notIo (some s1) = true := h1
    have ez : ((0 : Int) + (s : Nat)) = (s : Nat) := by omega
    rw [ez] at e0
    have g1 : gN 1 (.int (s : Nat)) [.val (.scr (ns.map D.int)), s1, s2, s3] = some [.val (.scr (ns.map D.int)), .val (.int (s : Nat)), s2, s3] := by
      simp only [gN, setV, List.getElem?_cons_succ, List.getElem?_cons_zero, h1', if_true, List.set_cons_succ, List.set_cons_zero]
    obtain ⟨m, e2⟩ := turn ns s s2 s3 (by omega) h2 h3
    obtain ⟨s1', s2', s3', e3⟩ := outer ns n (s + 1) (.val (.int (s : Nat))) (.own m) (.val (.lst vals)) (by omega) rfl rfl rfl
    refine ⟨s1', s2', s3', ?_⟩
    rw [e0, loop_nx g1 e2]
    have ee : s + (n + 1) = s + 1 + n := by omega
    rw [ee]
    exact e3
theorem rng_ok (ns : List Int) (x1 x2 x3 : Sl) : ∃ n : Nat, n ≤ 3 ∧ (mItA rng1 (mCons (mCall (two1 maxD) (mCons (mC (.int 1)) (mCons (mCall (two1 minD) (mCons (mC (.int 2)) (mCons (mCall (one1 lenD) (mCons (mVar 0) mNil)) mNil))) mNil))) mNil)) [.val (.scr (ns.map D.int)), x1, x2, x3] = .ok (rgL 0 n) [.val (.scr (ns.map D.int)), x1, x2, x3] := by
  generalize hj : (if (((ns.map D.int).length : Nat) : Int) < 2 then (((ns.map D.int).length : Nat) : Int) else 2) = j
  generalize hi : (if j > 1 then j else 1) = i
  have b : 1 ≤ i ∧ i ≤ 3 := by
    rw [← hi, ← hj]
    split <;> split <;> omega
  have e1 := minD_int 2 (((ns.map D.int).length : Nat) : Int)
  rw [hj] at e1
  have e2 := maxD_int 1 j
  rw [hi] at e2
  have e3 : rng1 [.int i] = some (rgL 0 i.toNat) := by
    show (if -(2 ^ 62) ≤ i ∧ i < 2 ^ 62 then some (rgL 0 i.toNat) else none) = _
    rw [if_pos ⟨by omega, by omega⟩]
  refine ⟨i.toNat, by omega, ?_⟩
  simp only [mItA, e1, e2, e3, noX, fnSem, en0, pre0, ioOf, mSeq, mIfS, mRet, mRetN, mAsg, mAsgO, mExpr, mNext, mDead, mTest, mAnd, mOr, mNot, mIf, mAndV, mOrV, mNotV, notD, mChain, mOp1, mOp2, mC, mVar, mCall, mCons, mNil, mTup, mLst, mStar, mCallV, mCallD, mPar, mAsgG, gT, gTs, gN, setV, notIo, nxt, Rs.bind, lift, asB, one1, two1, ixD, addD, subD, lenT, lenL, lenSc, tupD, intD, eq0, dI, dB, dS, List.length_cons, List.length_nil, List.map_cons, List.map_nil, List.append_nil, List.nil_append, List.cons_append, List.getElem?_cons_zero, List.getElem?_cons_succ, List.set_cons_zero, List.set_cons_succ, List.replicate, Option.bind_some, Option.map_some, Option.bind, Nat.zero_add, Nat.add_zero, Nat.reduceAdd, Nat.reduceSub, Nat.reduceEqDiff, if_true, if_false, reduceIte, Bool.false_eq_true, Bool.not_true, Bool.not_false, Nat.reduceLT, decide_true, decide_false, mSetF, clsAt, fldS, muOf, Sl.get, Sl.put, putD, mSetFs, fldsT, fldsS, allS, mMake, mMakeL, mCm, fnN, mJs, itSeq, mMeth, beq_self_eq_true, and_self, List.isEmpty_nil, List.isEmpty_cons, Option.map, big, Nat.reduceLeDiff, Nat.zero_le, Nat.le_refl]
theorem law_key (x : D) : fn_lawX none [x] = (match (match m_lawX [.val x, .non, .non, .non] with
    | .ok (.rt x) _ => (.ret x none : Fs)
    | .ok .nx _ => .ret (.non, false) none
    | .exc x _ => .exc x none
    | _ => .stuck) with
    | .ret x m => .ret x m
    | _ => .stuck) := rfl
theorem law_true (ns : List Int) (hl : ns.length ≤ 63) : fn_lawX none [.scr (ns.map D.int)] = .ret (.bl true, false) none := by
  obtain ⟨n, hn, er⟩ := rng_ok ns .non .non .non
  obtain ⟨s1, s2, s3, el⟩ := outer ns n 0 .non .non .non (by omega) rfl rfl rfl
  have lp : p_lawX_0 [.val (.scr (ns.map D.int)), .non, .non, .non] = .ok .nx [.val (.scr (ns.map D.int)), s1, s2, s3] := by
    unfold p_lawX_0 mFor
    rw [er]
    rw [Nat.zero_add] at el
    exact el
  rw [law_key]
  unfold m_lawX
  rw [seq_nx lp]
  rfl
end PM.G

open PySem PySem.W PySem.Calls PyProof.Rows
set_option maxHeartbeats 0 in
theorem PySem.Challenge.cw_seamsayings_k01_errors_and_what_they_kee_holds : PySem.Challenge.rw_seamsayings_k01_errors_and_what_they_kee.Holds := by
  w_on; o_law
  refine HandSHeadRun.head_any (r := OpenLaw.row PySem.Challenge.rw_seamsayings_k01_errors_and_what_they_kee) (q := view (OpenLaw.row PySem.Challenge.rw_seamsayings_k01_errors_and_what_they_kee).prog [32]) (H := PM.G.hk) (ob := PM.G.ob) (M := 8000) (loose := PM.G.names) (d := HandSHeadRun.topDef (OpenLaw.row PySem.Challenge.rw_seamsayings_k01_errors_and_what_they_kee).prog 32) (kwd := []) PM.G.ob_eq (by kernel_rfl) (fun s => by kernel_rfl) PM.G.run (by kernel_rfl) (by kernel_rfl) (by kernel_rfl) (by rfl) (by first | assumption | decide +kernel) (by decide +kernel) ⟨rfl, rfl, rfl, rfl, rfl, by decide +kernel⟩ ?hw ?hc
  case hw => w_witness2
  case hc =>
    refine PM.walk_G (l := PySem.Challenge.rw_seamsayings_k01_errors_and_what_they_kee) (n := 63) (k := 6) (x := "_law_script") (Z := L2.CX0) rfl (by decide) (by kernel_rfl) ⟨rfl, by decide, by decide⟩ rfl ?F (fun _ _ _ _ z => z)
    intro w mg fa h Y G hmg0
    obtain ⟨K, KX, c⟩ := Y
    have hmg : mg ("law" : PySem.Str) = some (.ref fa) := by
      have e : (HandSHeadRun.topDef (OpenLaw.row PySem.Challenge.rw_seamsayings_k01_errors_and_what_they_kee).prog 32).name = ("law" : PySem.Str) := by kernel_rfl
      rw [← e]
      exact hmg0
    obtain ⟨a, fd, hm, hb, F⟩ := PM.G.top_law (PM.G.tx KX G c.m.1)
    have ea := hm.symm.trans hmg
    cases ea
    exact ⟨K, fd, PM.spOf (PM.G.wd K) 1 PM.G.fn_lawX, KX, hb, fun H a ns hl hO hS => PM.law_sp (w := PM.G.wd K) hO hS (PM.G.law_true ns hl), fun b0 _ _ => F _ b0 (PM.G.txp c)⟩

