import PyProof.Rows.All
import Wide.All
import OpenK.AllK
import Wide.FinOn
import HandS.ForMost
import HandS.Exc
import HandS.ExcOwn
import HandS.WordsExc
import HandS.Slots
import HandS.ExcValue
import KE.KeyNested
import KE.KDictKeyed
import HandS.Set
import HandS.Strs
import HandS.TupSets
import HandS.SetTxt0
import HandS.Lambda
import HandS.Star
import HandS.TupAny
import HandS.Wide
import HandS.IsInst
import HandS.FStr
import HandS.RaiseMore
import HandS.Walk
import HandS.Style
import HandS.SlotsOwn
import HandS.ClsMeth
import HandS.Iter
import KE.GoesEnum
import HandS.Ends
import HandS.HeadHook3
import HandS.Head2
import HandS.Deep
import HandS.TupMul
import HandS.Dict
import HandS.OwnEq
import KE.KExcSuper
import HandS.ExcInit
import HandS.TryMany
import HandS.ExcField
import PyProof.ListStr
import PyProof.StrOps2
import KE.KCallOwn
import OpenK.KMeth
import KE.KOwnIter
import HandS.IterNext
import PyProof.WalksMore
import HandS.More
import HandS.Text
import HandS.ListItems
import HandS.TryOnly
import HandS.Conv
import KE.KExcIs
import HandS.ExcIs
import HandS.ExcCtx
import HandS.HotCalls
import HandS.EndTab
import KE.KNestM
import PyProof.RulesMatch
import KE.KNest
import PySem.Challenge.RW_seamsayings_k21_limits_of_sayings
import HandS.DictComp
import HandS.SortInts
import HandS.SetFor
import HandS.TupLen
import HandS.Zip
import HandS.Sort
import PyProof.ListRange
import KE.KDictList
import KE.KDictDisplayH
import KE.KDictZip
import HandS.TupLe
import HandS.Finally
import KE.SortData
import HandS.SortKw
import KE.SortKeyHeap
import HandS.DictEq
import KE.DataMinMax
import KE.GoesMore
import KE.GoesZip
import PyProof.CollectStr
import HandS.DictTup
import HandS.DeepEq
import HandS.NoneIn
import KE.KDictPairs
import HandS.MapJoin
import HandS.Codes
import HandS.HeadEnd
set_option Elab.async false
set_option linter.all false
set_option maxRecDepth 100000
set_option maxHeartbeats 4000000
namespace PM
open PySem L2

/-! ### data -/
inductive D where
  | non | bl (b : Bool) | int (i : Int) | str (x : Str) | tup (xs : List D) | lst (xs : List D) | dct (ks vs : List D) | obj (c : Nat) (fs : List D) | scr (xs : List D) | cls (c : Nat) | exn (c : Nat) (ns : List Str) (ds : List D) | dkt (ks vs : List D) | set (xs : List Str) | dkf (ks vs : List D) | rcd (c : Nat) (ns : List Str) (ds : List D) | lam (k : Nat)

/-- what is fixed around a body: the written part, the classes by number, the tables of code objects that may grow -/
structure Wd where
  K : PySem.W.Frag
  cl : Nat → Addr
  wo : World
  T : List (Addr × Str)
  /-- lambdas by number: qualified name, parameters, body, names -/
  lo : Nat → Str × Arguments × Expr × Scope

def WrT (K : PySem.W.Frag) (a : Addr) (xs : List V) : Prop :=
  ∃ (o : Obj) (its : Array Value) (n : Nat), K.lookup a = some o ∧ o.cls = .type "tuple" ∧ o.data = .seq its n ∧ its.size ≤ sizeLine ∧ Vals xs its.toList
def WrL (K : PySem.W.Frag) (a : Addr) (xs : List V) : Prop :=
  ∃ (o : Obj) (its : Array Value) (n : Nat), K.lookup a = some o ∧ o.cls = .type "list" ∧ o.dict = none ∧ o.data = .seq its n ∧ its.size ≤ sizeLine ∧ Vals xs its.toList

abbrev Av := Addr → Prop

/-- a tracked thing that is not guarded -/
def At (O : Av) (H : Hp) (a : Addr) (u : HO) : Prop := ¬ O a ∧ H a = some u

def keyD : D → Option Key
  | .int i => some (.inl i)
  | .str x => some (.inr x)
  | _ => none
def keysD : List D → List Key → Prop
  | [], ks => ks = []
  | d :: ds, ks => ∃ k ks', ks = k :: ks' ∧ keyD d = some k ∧ keysD ds ks'

/-! keys that are tuples -/
mutual
def nkD : D → Option NestedKey
  | .non => some .none
  | .int i => some (.num i)
  | .str x => some (.text x)
  | .tup ds => (nkL ds).map .tup
  | _ => none
def nkL : List D → Option (List NestedKey)
  | [] => some []
  | d :: ds => (nkD d).bind fun k => (nkL ds).map (k :: ·)
end
/-- a dict with tuples as keys: the keys, where they stand, the values -/
def DkP (wo : World) (a : Addr) (xs : List (NestedKey × Addr × V)) (h : Heap) : Prop := xs.length ≤ sizeLine ∧ (a == sysModules) = false ∧ (∀ x ∈ xs, x.1.depth ≤ 8) ∧ ∃ ys : List (NestedKey × Addr × Value),
  Paired (fun (p : NestedKey × Addr × V) (q : NestedKey × Addr × Value) => p.1 = q.1 ∧ p.2.1 = q.2.1 ∧ RelV p.2.2 q.2.2) xs ys ∧
  ∃ o es ep, h.get? a = some o ∧ o.ExactDict ∧ o.data = .dict es ep ∧ es.toList = ys.map (fun x => (⟨x.1.hash wo, .ref x.2.1, x.2.2⟩ : DictEntry)) ∧ (ys.map (·.1)).Nodup
def DkO (wo : World) (a : Addr) (xs : List (NestedKey × Addr × V)) : HO := .ext (DkP wo a xs)
/-- .. that will never change: it is the object o -/
def DkX (wo : World) (a : Addr) (o : Obj) (xs : List (NestedKey × Addr × V)) : HO := .ext fun h => h.get? a = some o ∧ DkP wo a xs h
/-! sets of texts -/
def keyS (e : Int × Value) : Str := match e.2 with
  | .str k _ => k
  | _ => Str.empty
def GoodS (w : World) (e : Int × Value) : Prop := ∃ k tk, e.2 = Value.str k tk ∧ e.1 = PySem.hashStr w k
/-- the set of the texts l at a -/
structure SetS (w : World) (h : Heap) (a : Addr) (l : List Str) : Prop where
  ex : ∃ o es ep t, h.get? a = some o ∧ o.ExactSet ∧ o.data = .set es ep t ∧ (∀ e ∈ es.toList, GoodS w e) ∧ (es.toList.map keyS).Perm l ∧ es.size < scanBound ∧ t.fits es.size = true ∧ Ris t.place.toList ∧ (w.params.followText "set-order" = true ∨ t.led = true)
  nd : l.Nodup
def SetSO (w : World) (a : Addr) (l : List Str) : HO := .ext fun h => SetS w h a l
/-- an exception with its dict at d -/
def ExD (cls : Value) (d a : Addr) : HO := .ext fun h => ∃ (oe : Obj) (vs : Array Value), h.get? a = some oe ∧ Zc cls (some d) oe ∧ oe.data = .fields vs
/-- a lambda without captured names at f, its code object at cd -/
def LamO (l : Str × Arguments × Expr × Scope) (f cd : Addr) : HO := .ext fun h => ∃ pm ctv : Value, h.get? f = some (PySem.W.kla_obj "<lambda>" l.1 l.2.1 l.2.2.1 l.2.2.2 [] pm cd ctv)
mutual
def Rep (w : Wd) (O : Av) (H : Hp) : D → V → Prop
  | .non, v => v = .non
  | .bl b, v => v = .bl b
  | .int i, v => v = .int i
  | .str x, v => v = .str x
  | .cls c, v => v = .ref (w.cl c)
  | .tup ds, v => ∃ a vs, v = .ref a ∧ (At O H a (.tup vs) ∨ WrT w.K a vs) ∧ RepL w O H ds vs
  | .lst ds, v => ∃ a vs, v = .ref a ∧ At O H a (.lst vs) ∧ RepL w O H ds vs
  | .dct ks ds, v => ∃ a kvs, v = .ref a ∧ (At O H a (.dK kvs) ∨ ∃ o, At O H a (.frz o (.dK kvs))) ∧ keysD ks (kvs.map (·.1)) ∧ RepL w O H ds (kvs.map (·.2))
  | .obj c fs, v => ∃ a dx vs, v = .ref a ∧ dx ≠ a ∧ ¬ O a ∧ ¬ O dx ∧ H a = some (SlX.SlO a (w.cl c) dx (vs.map some)) ∧ H dx = some (.xd []) ∧ RepL w O H fs vs
  | .scr ds, v => ∃ a vs, v = .ref a ∧ ((∃ o, At O H a (.frz o (.lst vs))) ∨ WrL w.K a vs) ∧ RepL w O H ds vs
  | .exn c ns ds, v => ∃ a vs, v = .ref a ∧ ((ns = [] ∧ At O H a (ExO (.ref (w.cl c)) a)) ∨ ∃ d, At O H a (ExD (.ref (w.cl c)) d a) ∧ At O H d (.xd (ns.zip vs))) ∧ RepL w O H ds vs
  | .dkt ks ds, v => ∃ a xs, v = .ref a ∧ (At O H a (DkO w.wo a xs) ∨ ∃ o, At O H a (.frz o (DkO w.wo a xs))) ∧ nkL ks = some (xs.map (·.1)) ∧ RepL w O H ks (xs.map fun x => V.ref x.2.1) ∧ RepL w O H ds (xs.map (·.2.2))
  | .set xs, v => ∃ a, v = .ref a ∧ At O H a (SetSO w.wo a xs)
  | .dkf ks ds, v => ∃ a xs o, v = .ref a ∧ At O H a (DkX w.wo a o xs) ∧ nkL ks = some (xs.map (·.1)) ∧ RepL w O H ks (xs.map fun x => V.ref x.2.1) ∧ RepL w O H ds (xs.map (·.2.2))
  | .rcd c ns ds, v => ∃ a dx vs, v = .ref a ∧ At O H a (.ins (w.cl c) dx (ns.zip vs)) ∧ vs.length = ns.length ∧ RepL w O H ds vs
  | .lam k, v => ∃ f cd, v = .ref f ∧ At O H f (LamO (w.lo k) f cd) ∧ At O H cd (LamX.CodeO cd (w.lo k).1)
def RepL (w : Wd) (O : Av) (H : Hp) : List D → List V → Prop
  | [], vs => vs = []
  | d :: ds, vs => ∃ v vs', vs = v :: vs' ∧ Rep w O H d v ∧ RepL w O H ds vs'
end

/-- from one time to a later one -/
structure Step (O : Av) (H : Hp) (O' : Av) (H' : Hp) : Prop where
  sub : ∀ a, O' a → O a ∨ H a = none
  kept : ∀ a o, ¬ O a → H a = some o → H' a = some o
  dom : ∀ a, H a ≠ none → H' a ≠ none
theorem Step.refl (O : Av) (H : Hp) : Step O H O H := ⟨fun _ h => .inl h, fun _ _ _ h => h, fun _ h => h⟩
theorem Step.off {O O' : Av} {H H' : Hp} (s : Step O H O' H') {a : Addr} (h : ¬ O a) (e : H a ≠ none) : ¬ O' a := fun q => (s.sub a q).elim h e
theorem Step.trans {O O' O'' : Av} {H H' H'' : Hp} (s : Step O H O' H') (t : Step O' H' O'' H'') : Step O H O'' H'' where
  sub := fun a q => by
    rcases t.sub a q with q | q
    · exact s.sub a q
    · refine .inr ?_
      cases e : H a with
      | none => rfl
      | some o => exact absurd q (s.dom a (by rw [e]; simp))
  kept := fun a o h e => t.kept a o (s.off h (by rw [e]; simp)) (s.kept a o h e)
  dom := fun a h => t.dom a (s.dom a h)

theorem At.step {O O' : Av} {H H' : Hp} (s : Step O H O' H') {a : Addr} {u : HO} (h : At O H a u) : At O' H' a u := by
  obtain ⟨h1, h2⟩ := h
  exact ⟨s.off h1 (by rw [h2]; simp), s.kept a _ h1 h2⟩

section
variable {w : Wd} {O O' : Av} {H H' : Hp}
mutual
theorem Rep.step (s : Step O H O' H') : ∀ (d : D) (v : V), Rep w O H d v → Rep w O' H' d v
  | .non, v, h => by simpa only [Rep] using h
  | .bl _, v, h => by simpa only [Rep] using h
  | .int _, v, h => by simpa only [Rep] using h
  | .str _, v, h => by simpa only [Rep] using h
  | .cls _, v, h => by simpa only [Rep] using h
  | .tup ds, v, h => by
    simp only [Rep] at h ⊢
    obtain ⟨a, vs, e, h1, h2⟩ := h
    exact ⟨a, vs, e, h1.imp (At.step s) id, RepL.step s ds vs h2⟩
  | .lst ds, v, h => by
    simp only [Rep] at h ⊢
    obtain ⟨a, vs, e, h1, h2⟩ := h
    exact ⟨a, vs, e, At.step s h1, RepL.step s ds vs h2⟩
  | .scr ds, v, h => by
    simp only [Rep] at h ⊢
    obtain ⟨a, vs, e, h1, h2⟩ := h
    exact ⟨a, vs, e, h1.imp (fun ⟨o, q⟩ => ⟨o, At.step s q⟩) id, RepL.step s ds vs h2⟩
  | .dct ks ds, v, h => by
    simp only [Rep] at h ⊢
    obtain ⟨a, kvs, e, h1, h2, h3⟩ := h
    exact ⟨a, kvs, e, h1.imp (At.step s) (fun ⟨o, q⟩ => ⟨o, At.step s q⟩), h2, RepL.step s ds _ h3⟩
  | .obj c fs, v, h => by
    simp only [Rep] at h ⊢
    obtain ⟨a, dx, vs, e, n, o1, o2, h1, h2, h3⟩ := h
    exact ⟨a, dx, vs, e, n, s.off o1 (by rw [h1]; simp), s.off o2 (by rw [h2]; simp), s.kept _ _ o1 h1, s.kept _ _ o2 h2, RepL.step s fs vs h3⟩
  | .exn c ns ds, v, h => by
    simp only [Rep] at h ⊢
    obtain ⟨a, vs, e, h1, h2⟩ := h
    exact ⟨a, vs, e, h1.imp (fun q => ⟨q.1, At.step s q.2⟩) (fun ⟨d, q1, q2⟩ => ⟨d, At.step s q1, At.step s q2⟩), RepL.step s ds vs h2⟩
  | .dkt ks ds, v, h => by
    simp only [Rep] at h ⊢
    obtain ⟨a, xs, e, h1, h2, h3, h4⟩ := h
    exact ⟨a, xs, e, h1.imp (At.step s) (fun ⟨o, q⟩ => ⟨o, At.step s q⟩), h2, RepL.step s ks _ h3, RepL.step s ds _ h4⟩
  | .set xs, v, h => by
    simp only [Rep] at h ⊢
    obtain ⟨a, e, h1⟩ := h
    exact ⟨a, e, At.step s h1⟩
  | .dkf ks ds, v, h => by
    simp only [Rep] at h ⊢
    obtain ⟨a, xs, o, e, h1, h2, h3, h4⟩ := h
    exact ⟨a, xs, o, e, At.step s h1, h2, RepL.step s ks _ h3, RepL.step s ds _ h4⟩
  | .rcd c ns ds, v, h => by
    simp only [Rep] at h ⊢
    obtain ⟨a, dx, vs, e, h1, h2, h3⟩ := h
    exact ⟨a, dx, vs, e, At.step s h1, h2, RepL.step s ds _ h3⟩
  | .lam k, v, h => by
    simp only [Rep] at h ⊢
    obtain ⟨f, cd, e, h1, h2⟩ := h
    exact ⟨f, cd, e, At.step s h1, At.step s h2⟩
theorem RepL.step (s : Step O H O' H') : ∀ (ds : List D) (vs : List V), RepL w O H ds vs → RepL w O' H' ds vs
  | [], vs, h => by simpa only [RepL] using h
  | d :: ds, vs, h => by
    simp only [RepL] at h ⊢
    obtain ⟨v, vs', e, h1, h2⟩ := h
    exact ⟨v, vs', e, Rep.step s d v h1, RepL.step s ds vs' h2⟩
end
end

/-- slots of an instance -/
def RepO (w : Wd) (O : Av) (H : Hp) : List (Option D) → List (Option V) → Prop
  | [], vs => vs = []
  | none :: ds, vs => ∃ vs', vs = none :: vs' ∧ RepO w O H ds vs'
  | some d :: ds, vs => ∃ v vs', vs = some v :: vs' ∧ Rep w O H d v ∧ RepO w O H ds vs'
theorem RepO.step {w : Wd} {O O' : Av} {H H' : Hp} (s : Step O H O' H') : ∀ (ds : List (Option D)) (vs : List (Option V)), RepO w O H ds vs → RepO w O' H' ds vs
  | [], vs, h => h
  | none :: ds, vs, ⟨vs', e, h⟩ => ⟨vs', e, RepO.step s ds vs' h⟩
  | some d :: ds, vs, ⟨v, vs', e, h1, h2⟩ => ⟨v, vs', e, Rep.step s d v h1, RepO.step s ds vs' h2⟩
/-- a list, a dict that its holder alone may change; an instance that is being made -/
inductive Mu where
  | lst (ds : List D) | dct (ks vs : List D) | ins (c : Nat) (fs : List (Option D)) | dkt (ks vs : List D) | rcd (c : Nat) (ns : List Str) (ds : List D)
def Mu.is : Mu → D → Prop
  | .lst ds, d => d = .lst ds
  | .dct ks vs, d => d = .dct ks vs
  | .ins _ _, _ => False
  | .dkt ks vs, d => d = .dkt ks vs
  | .rcd c ns ds, d => d = .rcd c ns ds
def MuAt (w : Wd) (O : Av) (H : Hp) (a : Addr) : Mu → Prop
  | .lst ds => ∃ vs, H a = some (.lst vs) ∧ RepL w O H ds vs
  | .dct ks ds => ∃ kvs, H a = some (.dK kvs) ∧ keysD ks (kvs.map (·.1)) ∧ RepL w O H ds (kvs.map (·.2))
  | .ins c fs => ∃ dx vs, H a = some (SlX.SlO a (w.cl c) dx vs) ∧ dx ≠ a ∧ ¬ O dx ∧ H dx = some (.xd []) ∧ RepO w O H fs vs
  | .dkt ks ds => ∃ xs, H a = some (DkO w.wo a xs) ∧ nkL ks = some (xs.map (·.1)) ∧ RepL w O H ks (xs.map fun x => V.ref x.2.1) ∧ RepL w O H ds (xs.map (·.2.2))
  | .rcd c ns ds => ∃ dx vs, H a = some (.ins (w.cl c) dx (ns.zip vs)) ∧ vs.length = ns.length ∧ RepL w O H ds vs
theorem MuAt.step {w : Wd} {O O' : Av} {H H' : Hp} (s : Step O H O' H') {a : Addr} (e : H' a = H a) : ∀ {m : Mu}, MuAt w O H a m → MuAt w O' H' a m
  | .lst ds, ⟨vs, h1, h2⟩ => ⟨vs, e.trans h1, RepL.step s ds vs h2⟩
  | .dct ks ds, ⟨kvs, h1, h2, h3⟩ => ⟨kvs, e.trans h1, h2, RepL.step s ds _ h3⟩
  | .ins c fs, ⟨dx, vs, h1, h2, h3, h4, h5⟩ => ⟨dx, vs, e.trans h1, h2, s.off h3 (by rw [h4]; simp), s.kept _ _ h3 h4, RepO.step s fs vs h5⟩
  | .dkt ks ds, ⟨xs, h1, h2, h3, h4⟩ => ⟨xs, e.trans h1, h2, RepL.step s ks _ h3, RepL.step s ds _ h4⟩
  | .rcd c ns ds, ⟨dx, vs, h1, h2, h3⟩ => ⟨dx, vs, e.trans h1, h2, RepL.step s ds _ h3⟩
theorem MuAt.some {w : Wd} {O : Av} {H : Hp} {a : Addr} : ∀ {m : Mu}, MuAt w O H a m → H a ≠ none
  | .lst _, ⟨_, h, _⟩ => by rw [h]; simp
  | .dct _ _, ⟨_, h, _⟩ => by rw [h]; simp
  | .ins _ _, ⟨_, _, h, _⟩ => by rw [h]; simp
  | .dkt _ _, ⟨_, h, _⟩ => by rw [h]; simp
  | .rcd _ _ _, ⟨_, _, h, _⟩ => by rw [h]; simp
/-- given away: it is data from then on -/
theorem MuAt.rep {w : Wd} {O : Av} {H : Hp} {a : Addr} (n : ¬ O a) : ∀ {m : Mu} {d : D}, m.is d → MuAt w O H a m → Rep w O H d (.ref a)
  | .lst ds, d, e, ⟨vs, h1, h2⟩ => by
    cases (show d = .lst ds from e)
    simp only [Rep]
    exact ⟨a, vs, rfl, ⟨n, h1⟩, h2⟩
  | .dct ks ds, d, e, ⟨kvs, h1, h2, h3⟩ => by
    cases (show d = .dct ks ds from e)
    simp only [Rep]
    exact ⟨a, kvs, rfl, .inl ⟨n, h1⟩, h2, h3⟩
  | .ins _ _, _, e, _ => e.elim
  | .dkt ks ds, d, e, ⟨xs, h1, h2, h3, h4⟩ => by
    cases (show d = .dkt ks ds from e)
    simp only [Rep]
    exact ⟨a, xs, rfl, .inl ⟨n, h1⟩, h2, h3, h4⟩
  | .rcd c ns ds, d, e, ⟨dx, vs, h1, h2, h3⟩ => by
    cases (show d = .rcd c ns ds from e)
    simp only [Rep]
    exact ⟨a, dx, vs, rfl, ⟨n, h1⟩, h2, h3⟩

/-! ### slots -/
inductive Sl where
  | non | val (d : D) | own (m : Mu) | io (m : Mu)
abbrev En := List Sl

/-- around a body: what is guarded from outside, what it may change there, the heap at its beginning -/
structure Fr where
  w : Wd
  B : Av
  Io : Nat → Av
  He : Hp

def SlAt (F : Fr) (O : Av) (H : Hp) (i : Nat) : Sl → Option (Option V) → Prop
  | .non, _ => True
  | .val d, o => ∃ v, o = some (some v) ∧ Rep F.w O H d v
  | .own m, o => ∃ a, o = some (some (.ref a)) ∧ O a ∧ F.He a = none ∧ MuAt F.w O H a m
  | .io m, o => ∃ a, o = some (some (.ref a)) ∧ F.Io i a ∧ MuAt F.w O H a m
def Sl.mu : Sl → Bool
  | .own _ => true
  | .io _ => true
  | _ => false
/-- the table of code objects at P, all of them named q -/
def TabZ (O : Av) (H : Hp) (P : Addr) (q : Str) : Prop := ∃ ps : Array Value, H P = some (.tbl ps) ∧ TriplesOk ps.toList ∧ ∀ (pos : Pos) (cv : Value), codeAmong pos ps.toList = some cv → ∃ c, cv = .ref c ∧ ¬ O c ∧ H c = some (LamX.CodeO c q)
theorem TabZ.step {O O' : Av} {H H' : Hp} (s : Step O H O' H') {P : Addr} {q : Str} (e : H' P = H P) (h : TabZ O H P q) : TabZ O' H' P q := by
  obtain ⟨ps, h1, h2, h3⟩ := h
  refine ⟨ps, e.trans h1, h2, fun pos cv hc => ?_⟩
  obtain ⟨c, e1, e2, e3⟩ := h3 pos cv hc
  exact ⟨c, e1, s.off e2 (by rw [e3]; simp), s.kept _ _ e2 e3⟩
theorem TabZ.some {O : Av} {H : Hp} {P : Addr} {q : Str} (h : TabZ O H P q) : ∃ ps, H P = Option.some (.tbl ps) := by
  obtain ⟨ps, h1, _⟩ := h
  exact ⟨ps, h1⟩
theorem MuAt.ntab {w : Wd} {O : Av} {H : Hp} {a : Addr} : ∀ {m : Mu}, MuAt w O H a m → ∀ ps, H a ≠ Option.some (.tbl ps)
  | .lst _, ⟨_, h, _⟩, ps => fun z => by rw [h] at z; cases z
  | .dct _ _, ⟨_, h, _⟩, ps => fun z => by rw [h] at z; cases z
  | .ins _ _, ⟨_, _, h, _⟩, ps => fun z => by rw [h] at z; cases z
  | .dkt _ _, ⟨_, h, _⟩, ps => fun z => by rw [h] at z; cases z
  | .rcd _ _ _, ⟨_, _, h, _⟩, ps => fun z => by rw [h] at z; cases z
/-- the number by which the tables are let to change -/
def tI : Nat := 1000000
/-- the tables, and that they may change -/
def TabsZ (w : Wd) (Io : Nat → Av) (O : Av) (H : Hp) : Prop := ∀ p ∈ w.T, Io tI p.1 ∧ TabZ O H p.1 p.2
theorem TabsZ.step {w : Wd} {Io : Nat → Av} {O O' : Av} {H H' : Hp} (s : Step O H O' H') (e : ∀ p ∈ w.T, H' p.1 = H p.1) (h : TabsZ w Io O H) : TabsZ w Io O' H' := fun p hp => ⟨(h p hp).1, (h p hp).2.step s (e p hp)⟩
/-- .. but for one other thing -/
theorem TabsZ.stepB {w : Wd} {Io : Nat → Av} {O O' : Av} {H H' : Hp} (s : Step O H O' H') {a : Addr} (hk : ∀ b o, b ≠ a → H b = some o → H' b = some o) (ha : ∀ p ∈ w.T, p.1 ≠ a) (h : TabsZ w Io O H) : TabsZ w Io O' H' := h.step s fun p hp => by
  obtain ⟨ps, e⟩ := (h p hp).2.some
  rw [e]
  exact hk _ _ (ha p hp) e
theorem TabsZ.ne {w : Wd} {Io : Nat → Av} {O : Av} {H : Hp} (h : TabsZ w Io O H) {a : Addr} (ha : ∀ ps, H a ≠ some (.tbl ps)) : ∀ p ∈ w.T, p.1 ≠ a := fun p hp z => by
  obtain ⟨ps, e⟩ := (h p hp).2.some
  rw [z] at e
  exact ha ps e
theorem TabsZ.upd {w : Wd} {Io : Nat → Av} {O : Av} {H : Hp} (h : TabsZ w Io O H) {d : Addr} {u v : HO} (hd : H d = some v) (hv : ∀ ps, v ≠ .tbl ps) (hc : ∀ c r, v ≠ LamX.CodeO c r) : TabsZ w Io O (upd H d u) := fun p hp => by
  obtain ⟨h0, ps, h1, h2, h3⟩ := h p hp
  refine ⟨h0, ps, ?_, h2, fun pos cv hcv => ?_⟩
  · rw [upd_ne fun z => by rw [z, hd] at h1; exact hv ps (Option.some.inj h1)]
    exact h1
  · obtain ⟨c, e1, e2, e3⟩ := h3 pos cv hcv
    refine ⟨c, e1, e2, ?_⟩
    rw [upd_ne fun z => by rw [z, hd] at e3; exact hc _ _ (Option.some.inj e3)]
    exact e3
structure Rel (F : Fr) (O : Av) (ρ : En) (σ : St) (H : Hp) : Prop where
  len : ρ.length = σ.length
  b0 : ∀ a, F.B a → O a
  bh : ∀ a, F.B a → F.He a ≠ none
  ib : ∀ i a, F.Io i a → F.B a
  dom : ∀ a, O a → H a ≠ none
  doh : ∀ a, F.He a ≠ none → H a ≠ none
  keep : ∀ a o, F.He a = some o → (∀ i, ¬ F.Io i a) → H a = some o
  slot : ∀ (i : Nat) (s : Sl), ρ[i]? = some s → SlAt F O H i s (σ[i]?)
  dist : ∀ (i j : Nat) (s t : Sl), ρ[i]? = some s → ρ[j]? = some t → s.mu = true → t.mu = true → σ[i]? = σ[j]? → i = j
  tab : TabsZ F.w F.Io O H
theorem Rel.fresh {F : Fr} {O : Av} {ρ : En} {σ : St} {H : Hp} (R : Rel F O ρ σ H) {a : Addr} (h : H a = none) : ¬ O a := fun q => R.dom a q h
theorem Rel.freshE {F : Fr} {O : Av} {ρ : En} {σ : St} {H : Hp} (R : Rel F O ρ σ H) {a : Addr} (h : H a = none) : F.He a = none := by
  cases e : F.He a with
  | none => rfl
  | some o => exact absurd h (R.doh a (by rw [e]; simp))

/-- guarded, too -/
def ins (O : Av) (a : Addr) : Av := fun b => O b ∨ b = a
/-- guarded no longer -/
def off (O : Av) (a : Addr) : Av := fun b => O b ∧ b ≠ a
/-- no slot holds it to be changed -/
def Apart (ρ : En) (σ : St) (a : Addr) : Prop := ∀ (i : Nat) (s : Sl), ρ[i]? = some s → s.mu = true → σ[i]? ≠ some (some (.ref a))
theorem off_step {O : Av} {H : Hp} {a : Addr} : Step O H (off O a) H := ⟨fun _ h => .inl h.1, fun _ _ _ h => h, fun _ h => h⟩
theorem Rel.release {F : Fr} {O : Av} {ρ : En} {σ : St} {H : Hp} (R : Rel F O ρ σ H) {a : Addr} (ap : Apart ρ σ a) (hb : ¬ F.B a) : Rel F (off O a) ρ σ H where
  len := R.len
  b0 := fun b h => ⟨R.b0 b h, fun e => hb (e ▸ h)⟩
  bh := R.bh
  ib := R.ib
  dom := fun b h => R.dom b h.1
  doh := R.doh
  keep := R.keep
  slot := fun i s h => by
    have q := R.slot i s h
    cases s with
    | non => trivial
    | val d =>
      obtain ⟨v, e, q⟩ := q
      exact ⟨v, e, Rep.step off_step d v q⟩
    | own m =>
      obtain ⟨b, e, q1, q2, q3⟩ := q
      exact ⟨b, e, ⟨q1, fun z => ap i _ h rfl (z ▸ e)⟩, q2, q3.step off_step rfl⟩
    | io m =>
      obtain ⟨b, e, q1, q2⟩ := q
      exact ⟨b, e, q1, q2.step off_step rfl⟩
  dist := R.dist
  tab := R.tab.step off_step fun _ _ => rfl

/-! ### results -/
/-- an error: its class, by number, and what it keeps -/
inductive Xc where
  | own (c : Nat) (fs : List (Str × D)) | ty (n : String)
inductive Rs (α : Type) where
  | ok (a : α) (ρ : En) | exc (x : Xc) (ρ : En) | stuck
def Rs.bind {α β : Type} (r : Rs α) (f : α → En → Rs β) : Rs β := match r with
  | .ok a ρ => f a ρ
  | .exc x ρ => .exc x ρ
  | .stuck => .stuck
/-- a value, and whether it is new and nobody else's -/
abbrev Vl := D × Bool
abbrev ME := En → Rs Vl

def VlAt (w : Wd) (σ : St) (H : Hp) (ρ' : En) (O' : Av) (H' : Hp) (v : V) (x : Vl) : Prop := match x.2 with
  | false => Rep w O' H' x.1 v
  | true => ∃ a m, v = .ref a ∧ H a = none ∧ O' a ∧ m.is x.1 ∧ MuAt w O' H' a m ∧ Apart ρ' σ a

def XcAt (w : Wd) (O : Av) (H : Hp) (cls : Value) (d : Option Addr) : Xc → Prop
  | .own c fs => cls = .ref (w.cl c) ∧ match fs with
    | [] => d = none
    | f :: fs => ∃ a vs, d = some a ∧ ¬ O a ∧ H a = some (.xd (((f :: fs).map (·.1)).zip vs)) ∧ RepL w O H ((f :: fs).map (·.2)) vs
  | .ty n => cls = .type n ∧ d = none

/-- what must hold behind a result; RA: how the machine's answer tells the result's -/
def Hold {α β : Type} (F : Fr) (W : WX) (O : Av) (σ : St) (H : Hp) (RA : En → Av → Hp → β → α → Prop) (Q : β → Hp → Prop) : Rs α → Prop
  | .ok a ρ' => ∀ O' H' b, Step O H O' H' → Rel F O' ρ' σ H' → RA ρ' O' H' b a → Q b H'
  | .exc x ρ' => ∀ O' H' cls d, Step O H O' H' → Rel F O' ρ' σ H' → XcAt F.w O' H' cls d x → W cls d σ H'
  | .stuck => False

theorem Hold.later {α β : Type} {F : Fr} {W : WX} {O O1 : Av} {σ : St} {H H1 : Hp} {RA RB : En → Av → Hp → β → α → Prop} {Q : β → Hp → Prop} (s : Step O H O1 H1) (m : ∀ ρ' O' H' b a, Step O1 H1 O' H' → RB ρ' O' H' b a → RA ρ' O' H' b a) :
    ∀ {r : Rs α}, Hold F W O σ H RA Q r → Hold F W O1 σ H1 RB Q r
  | .ok a ρ', h => fun O' H' b st R ra => h O' H' b (s.trans st) R (m ρ' O' H' b a st ra)
  | .exc x ρ', h => fun O' H' cls d st R xa => h O' H' cls d (s.trans st) R xa
  | .stuck, h => h

/-- a value's answer -/
def RV (F : Fr) (σ : St) (H : Hp) : En → Av → Hp → V → Vl → Prop := fun ρ' O' H' v x => VlAt F.w σ H ρ' O' H' v x
theorem Step.none_back {O O1 : Av} {H H1 : Hp} (s : Step O H O1 H1) {p : Addr} (e : H1 p = none) : H p = none := by
  cases q : H p with
  | none => rfl
  | some o => exact absurd e (s.dom p (by rw [q]; simp))
theorem VlAt.later {w : Wd} {σ : St} {ρ' : En} {O O1 : Av} {H H1 : Hp} (s : Step O H O1 H1) {O' : Av} {H' : Hp} {v : V} : ∀ {x : Vl}, VlAt w σ H1 ρ' O' H' v x → VlAt w σ H ρ' O' H' v x
  | (d, false), h => h
  | (d, true), ⟨p, m, e1, e2, e3⟩ => ⟨p, m, e1, s.none_back e2, e3⟩
theorem RV.later {F : Fr} {σ : St} {O : Av} {H : Hp} {O1 : Av} {H1 : Hp} (s : Step O H O1 H1) : ∀ ρ' O' H' (b : V) (a : Vl), Step O1 H1 O' H' → RV F σ H1 ρ' O' H' b a → RV F σ H ρ' O' H' b a := fun ρ' O' H' b a _ h => VlAt.later s h
theorem Hold.laterV {F : Fr} {W : WX} {O O1 : Av} {σ : St} {H H1 : Hp} {Q : VK} {r : Rs Vl} (h : Hold F W O σ H (RV F σ H) Q r) (s : Step O H O1 H1) : Hold F W O1 σ H1 (RV F σ H1) Q r := h.later s (RV.later s)
/-- given away -/
theorem VlAt.release {F : Fr} {σ : St} {ρ' : En} {O O' : Av} {H H' : Hp} {v : V} (st : Step O H O' H') (R : Rel F O' ρ' σ H') (dh : ∀ a, F.He a ≠ none → H a ≠ none) : ∀ {x : Vl}, VlAt F.w σ H ρ' O' H' v x →
    ∃ O1, Step O H O1 H' ∧ Rel F O1 ρ' σ H' ∧ Rep F.w O1 H' x.1 v ∧ Step O' H' O1 H'
  | (d, false), h => ⟨O', st, R, h, Step.refl _ _⟩
  | (d, true), ⟨a, m, e1, e2, e3, e4, e5, e6⟩ => by
    subst e1
    have hb : ¬ F.B a := fun q => dh a (R.bh a q) e2
    exact ⟨off O' a, st.trans off_step, R.release e6 hb, (e5.step off_step rfl).rep (fun q => q.2 rfl) e4, off_step⟩

/-- te does what m says -/
def Sim (w : Wd) (W : WX) (te : TE) (m : ME) : Prop := ∀ (F : Fr) (O : Av) (ρ : En) (σ : St) (H : Hp) (Q : VK), F.w = w → Rel F O ρ σ H → Hold F W O σ H (RV F σ H) Q (m ρ) → te σ H Q

/-- one after the other, the first one's value as it is -/
theorem Sim.bindF {w : Wd} {W : WX} {ta : TE} {ma : ME} (ha : Sim w W ta ma) {F : Fr} {O : Av} {ρ : En} {σ : St} {H : Hp} (hw : F.w = w) (R : Rel F O ρ σ H) {α β : Type} {RA : En → Av → Hp → β → α → Prop} {Q : β → Hp → Prop} {f : Vl → En → Rs α}
    (h : Hold F W O σ H RA Q ((ma ρ).bind f)) {k : V → Hp → Prop}
    (hk : ∀ (x : Vl) (v : V) (ρ1 : En) (O1 : Av) (H1 : Hp), Step O H O1 H1 → Rel F O1 ρ1 σ H1 → VlAt F.w σ H ρ1 O1 H1 v x → Hold F W O σ H RA Q (f x ρ1) → k v H1) : ta σ H k := by
  refine ha F O ρ σ H k hw R ?_
  cases e : ma ρ with
  | ok x ρ1 =>
    rw [e] at h
    exact fun O1 H1 v st R1 rv => hk x v ρ1 O1 H1 st R1 rv h
  | exc x ρ1 =>
    rw [e] at h
    exact fun O1 H1 cls d st R1 xa => h O1 H1 cls d st R1 xa
  | stuck =>
    rw [e] at h
    exact h
/-- .. as data -/
theorem Sim.bind {w : Wd} {W : WX} {ta : TE} {ma : ME} (ha : Sim w W ta ma) {F : Fr} {O : Av} {ρ : En} {σ : St} {H : Hp} (hw : F.w = w) (R : Rel F O ρ σ H) {α β : Type} {RA : En → Av → Hp → β → α → Prop} {Q : β → Hp → Prop} {f : Vl → En → Rs α}
    (h : Hold F W O σ H RA Q ((ma ρ).bind f)) {k : V → Hp → Prop}
    (hk : ∀ (x : Vl) (v : V) (ρ1 : En) (O1 : Av) (H1 : Hp), Step O H O1 H1 → Rel F O1 ρ1 σ H1 → Rep F.w O1 H1 x.1 v → Hold F W O σ H RA Q (f x ρ1) → k v H1) : ta σ H k :=
  ha.bindF hw R h fun x v ρ1 O1 H1 st R1 rv h1 => by
    obtain ⟨O2, s2, R2, r2, _⟩ := VlAt.release st R1 R.doh rv
    exact hk x v ρ1 O2 H1 s2 R2 r2 h1

/-- an expression's judgement: the machine runs as m says -/
def PM (X : Cx) (w : Wd) (W : WX) (e : Expr) (m : ME) : Prop := ∃ te, PE X e te ∧ Sim w W te m
end PM

namespace PM
open PySem L2

/-! ### the heap grows -/
def Grow (H H' : Hp) : Prop := ∀ a o, H a = some o → H' a = some o
theorem Grow.refl (H : Hp) : Grow H H := fun _ _ h => h
theorem Grow.trans {H H1 H2 : Hp} (a : Grow H H1) (b : Grow H1 H2) : Grow H H2 := fun x o h => b x o (a x o h)
theorem Grow.new {H : Hp} {p : Addr} {o : HO} (h : H p = none) : Grow H (upd H p o) := fun a u e => by
  rw [upd_ne (ne_of_none e h)]
  exact e
theorem Grow.dom {H H' : Hp} (g : Grow H H') {a : Addr} (h : H a ≠ none) : H' a ≠ none := by
  cases e : H a with
  | none => exact absurd e h
  | some o => rw [g a o e]; simp
theorem Grow.step {O : Av} {H H' : Hp} (g : Grow H H') : Step O H O H' := ⟨fun _ h => .inl h, fun a o _ e => g a o e, fun _ h => g.dom h⟩
theorem Grow.back {H H' : Hp} (g : Grow H H') {a : Addr} (h : H' a = none) : H a = none := by
  cases e : H a with
  | none => rfl
  | some o => rw [g a o e] at h; cases h
theorem MuAt.grow {w : Wd} {O : Av} {H H' : Hp} (g : Grow H H') {a : Addr} : ∀ {m : Mu}, MuAt w O H a m → MuAt w O H' a m
  | .lst ds, ⟨vs, h1, h2⟩ => ⟨vs, g _ _ h1, RepL.step g.step ds vs h2⟩
  | .dct ks ds, ⟨kvs, h1, h2, h3⟩ => ⟨kvs, g _ _ h1, h2, RepL.step g.step ds _ h3⟩
  | .ins c fs, ⟨dx, vs, h1, h2, h3, h4, h5⟩ => ⟨dx, vs, g _ _ h1, h2, h3, g _ _ h4, RepO.step g.step fs vs h5⟩
  | .dkt ks ds, ⟨xs, h1, h2, h3, h4⟩ => ⟨xs, g _ _ h1, h2, RepL.step g.step ks _ h3, RepL.step g.step ds _ h4⟩
  | .rcd c ns ds, ⟨dx, vs, h1, h2, h3⟩ => ⟨dx, vs, g _ _ h1, h2, RepL.step g.step ds _ h3⟩
theorem SlAt.grow {F : Fr} {O : Av} {H H' : Hp} (g : Grow H H') : ∀ {i : Nat} {s : Sl} {o : Option (Option V)}, SlAt F O H i s o → SlAt F O H' i s o
  | _, .non, _, h => h
  | _, .val d, _, ⟨v, e, h⟩ => ⟨v, e, Rep.step g.step d v h⟩
  | _, .own m, _, ⟨a, e, h1, h2, h3⟩ => ⟨a, e, h1, h2, h3.grow g⟩
  | _, .io m, _, ⟨a, e, h1, h2⟩ => ⟨a, e, h1, h2.grow g⟩
theorem Rel.grow {F : Fr} {O : Av} {ρ : En} {σ : St} {H H' : Hp} (R : Rel F O ρ σ H) (g : Grow H H') : Rel F O ρ σ H' :=
  ⟨R.len, R.b0, R.bh, R.ib, fun a h => g.dom (R.dom a h), fun a h => g.dom (R.doh a h), fun a o h n => g a o (R.keep a o h n), fun i s h => (R.slot i s h).grow g, R.dist, R.tab.step g.step fun p hp => by obtain ⟨ps, e⟩ := (R.tab p hp).2.some; rw [e]; exact g _ _ e⟩

theorem Rel.guard {F : Fr} {O : Av} {ρ : En} {σ : St} {H H' : Hp} (R : Rel F O ρ σ H) (g : Grow H H') {a : Addr} (h : H a = none) (h' : H' a ≠ none) : Rel F (ins O a) ρ σ H' := by
  have st : Step O H (ins O a) H' := ⟨fun b q => q.elim .inl fun e => .inr (e ▸ h), fun b o _ e => g b o e, fun _ e => g.dom e⟩
  refine ⟨R.len, fun b q => .inl (R.b0 b q), R.bh, R.ib, fun b q => q.elim (fun q => g.dom (R.dom b q)) (fun e => e ▸ h'), fun b q => g.dom (R.doh b q), fun b o q n => g b o (R.keep b o q n), fun i s e => ?_, R.dist, R.tab.step st fun p hp => by obtain ⟨ps, e⟩ := (R.tab p hp).2.some; rw [e]; exact g _ _ e⟩
  have q := R.slot i s e
  cases s with
  | non => trivial
  | val d =>
    obtain ⟨v, e, q⟩ := q
    exact ⟨v, e, Rep.step st d v q⟩
  | own m =>
    obtain ⟨b, e, q1, q2, q3⟩ := q
    cases z : H b with
    | none => exact absurd z q3.some
    | some o => exact ⟨b, e, .inl q1, q2, q3.step st ((g b o z).trans z.symm)⟩
  | io m =>
    obtain ⟨b, e, q1, q3⟩ := q
    cases z : H b with
    | none => exact absurd z q3.some
    | some o => exact ⟨b, e, q1, q3.step st ((g b o z).trans z.symm)⟩
theorem Rel.apart {F : Fr} {O : Av} {ρ : En} {σ : St} {H : Hp} (R : Rel F O ρ σ H) {a : Addr} (h : H a = none) : Apart ρ σ a := fun i s e hm q => by
  have z := R.slot i s e
  cases s with
  | non => cases hm
  | val d => cases hm
  | own m =>
    obtain ⟨b, e, q1, q2, q3⟩ := z
    rw [q] at e
    cases e
    exact q3.some h
  | io m =>
    obtain ⟨b, e, q1, q3⟩ := z
    rw [q] at e
    cases e
    exact q3.some h

/-! ### what a value-level rule must tell -/
def GoAt (w : Wd) (O : Av) (H H' : Hp) (v : V) (z : Vl) : Prop := match z.2 with
  | false => Rep w O H' z.1 v
  | true => ∃ a m, v = .ref a ∧ H a = none ∧ m.is z.1 ∧ MuAt w (ins O a) H' a m
/-- the way on from a grown heap -/
def Go (w : Wd) (O : Av) (H : Hp) (z : Vl) (Q : VK) : Prop := ∀ v H', Grow H H' → GoAt w O H H' v z → Q v H'
theorem Go.val {w : Wd} {O : Av} {H : Hp} {d : D} {Q : VK} (g : Go w O H (d, false) Q) {v : V} (h : Rep w O H d v) : Q v H := g v H (Grow.refl H) h
theorem Go.later {w : Wd} {O : Av} {H H1 : Hp} {Q : VK} (s : Grow H H1) : ∀ {z : Vl}, Go w O H z Q → Go w O H1 z Q
  | (d, false), g => fun v H' g' h => g v H' (s.trans g') h
  | (d, true), g => fun v H' g' h => g v H' (s.trans g') (by
    obtain ⟨a, m, e1, e2, e3⟩ := h
    exact ⟨a, m, e1, s.back e2, e3⟩)
theorem ins_step {O : Av} {H H' : Hp} (g : Grow H H') {p : Addr} (hp : H p = none) : Step O H (ins O p) H' := ⟨fun b q => q.elim .inl fun e => .inr (e ▸ hp), fun b o _ e => g b o e, fun _ e => g.dom e⟩
/-- a new list, a new tuple -/
theorem Go.newL {w : Wd} {O : Av} {H : Hp} {ds : List D} {Q : VK} (g : Go w O H (.lst ds, true) Q) {vs : List V} (h : RepL w O H ds vs) {p : Addr} (hp : H p = none) : Q (.ref p) (upd H p (.lst vs)) :=
  g _ _ (Grow.new hp) ⟨p, .lst ds, rfl, hp, rfl, ⟨vs, upd_same, RepL.step (ins_step (Grow.new hp) hp) ds vs h⟩⟩
theorem Go.newT {w : Wd} {O : Av} {H : Hp} {ds : List D} {Q : VK} (g : Go w O H (.tup ds, false) Q) (dm : ∀ a, O a → H a ≠ none) {vs : List V} (h : RepL w O H ds vs) {p : Addr} (hp : H p = none) : Q (.ref p) (upd H p (.tup vs)) := by
  refine g _ _ (Grow.new hp) ?_
  show Rep w O _ (.tup ds) (.ref p)
  simp only [Rep]
  exact ⟨p, vs, rfl, .inl ⟨fun q => dm p q hp, upd_same⟩, RepL.step (Grow.new hp).step ds vs h⟩
def Dm (O : Av) (H : Hp) : Prop := ∀ a, O a → H a ≠ none
def Op2 (w : Wd) (r : R2) (f : D → D → Option Vl) : Prop := ∀ (O : Av) (H : Hp) (x y : D) (z : Vl) (vx vy : V) (Q : VK), Dm O H → f x y = some z → Rep w O H x vx → Rep w O H y vy → Go w O H z Q → r vx vy H Q
def OpN (w : Wd) (r : List V → Hp → VK → Prop) (f : List D → Option Vl) : Prop := ∀ (O : Av) (H : Hp) (xs : List D) (z : Vl) (vs : List V) (Q : VK), Dm O H → f xs = some z → RepL w O H xs vs → Go w O H z Q → r vs H Q
/-- a rule's end: the heap has grown -/
theorem Hold.go {F : Fr} {W : WX} {O O1 : Av} {σ : St} {H H1 : Hp} {ρ1 : En} {Q : VK} : ∀ {z : Vl}, Hold F W O σ H (RV F σ H) Q (.ok z ρ1) → Step O H O1 H1 → Rel F O1 ρ1 σ H1 → Go F.w O1 H1 z Q
  | (d, false), h, st, R => fun v H' g rv => h O1 H' v (st.trans g.step) (R.grow g) rv
  | (d, true), h, st, R => fun v H' g rv => by
    obtain ⟨a, m, e1, e2, e3, e4⟩ := rv
    exact h (ins O1 a) H' v (st.trans (ins_step g e2)) (R.guard g e2 e4.some) ⟨a, m, e1, st.none_back e2, .inr rfl, e3, e4, R.apart e2⟩

/-! ### the plain forms -/
def mC (d : D) : ME := fun ρ => .ok (d, false) ρ
def mVar (i : Nat) : ME := fun ρ => match ρ[i]? with
  | some (.val d) => .ok (d, false) ρ
  | _ => .stuck
def lift {α : Type} (o : Option α) (ρ : En) : Rs α := match o with
  | some z => .ok z ρ
  | none => .stuck
def mOp2 (f : D → D → Option Vl) (ma mb : ME) : ME := fun ρ => (ma ρ).bind fun x ρ1 => (mb ρ1).bind fun y ρ2 => lift (f x.1 y.1) ρ2
def mOp1 (f : D → Option Vl) (ma : ME) : ME := fun ρ => (ma ρ).bind fun x ρ1 => lift (f x.1) ρ1

section
variable {w : Wd} {W : WX} {X : Cx} {pos : Pos} {a b : Expr} {ma mb : ME} {ta tb : TE}
theorem sim_c {v : V} {d : D} (h : ∀ O H, Rep w O H d v) : Sim w W (tC v) (mC d) := fun F O ρ σ H Q e R hh => by
  subst e
  exact (hh.go (Step.refl O H) R).val (h O H)
theorem pm_int {i : Int} {j} : PM X w W (.Constant (.int i) j pos) (mC (.int i)) := ⟨_, pe_int, sim_c fun O H => by simp only [Rep]⟩
theorem pm_str {x : Str} {j} : PM X w W (.Constant (.str x) j pos) (mC (.str x)) := ⟨_, pe_str, sim_c fun O H => by simp only [Rep]⟩
theorem pm_bl {x : Bool} {j} : PM X w W (.Constant (.bool x) j pos) (mC (.bl x)) := ⟨_, pe_bl, sim_c fun O H => by simp only [Rep]⟩
theorem pm_non {j} : PM X w W (.Constant .none j pos) (mC .non) := ⟨_, pe_non, sim_c fun O H => by simp only [Rep]⟩
theorem pm_gint {x : Str} {i : Int} {t : Tok} (hg : Gl X x) (hm : X.mg x = some (.int i t)) (hd : (x == ("__debug__" : Str)) = false := by decide) : PM X w W (.Name x pos) (mC (.int i)) := ⟨_, pe_glob hg hm (v := .int i) ⟨t, rfl⟩ hd, sim_c fun O H => by simp only [Rep]⟩
theorem pm_gstr {x : Str} {i : Str} {t : Tok} (hg : Gl X x) (hm : X.mg x = some (.str i t)) (hd : (x == ("__debug__" : Str)) = false := by decide) : PM X w W (.Name x pos) (mC (.str i)) := ⟨_, pe_glob hg hm (v := .str i) ⟨t, rfl⟩ hd, sim_c fun O H => by simp only [Rep]⟩
theorem sim_var {i : Nat} : Sim w W (tVar i) (mVar i) := fun F O ρ σ H Q e R hh => by
  subst e
  unfold mVar at hh
  split at hh
  · rename_i d hd
    obtain ⟨v, e1, h1⟩ := R.slot i _ hd
    exact ⟨v, e1, (hh.go (Step.refl O H) R).val h1⟩
  · exact hh.elim
theorem pm_var (i : Nat) {x : Str} (hN : X.N[i]? = some x := by rfl) (hv : Vis X.env.scope x := by first | exact Or.inl rfl | exact Or.inr (Or.inl rfl) | exact Or.inr (Or.inr rfl)) (hd : (x == ("__debug__" : Str)) = false := by decide)
    (hcd : (x == ("__classdict__" : Str)) = false := by decide) : PM X w W (.Name x pos) (mVar i) := ⟨_, pv i hN hv hd hcd, sim_var⟩
theorem sim_op2 {r : R2} {f : D → D → Option Vl} (hl : Op2 w r f) (ha : Sim w W ta ma) (hb : Sim w W tb mb) : Sim w W (tOp r ta tb) (mOp2 f ma mb) := fun F O ρ σ H Q e R hh => by
  subst e
  refine ha.bind rfl R hh fun x v ρ1 O1 H1 st1 R1 rx h1 => ?_
  have h1' : Hold F W O1 σ H1 (RV F σ H1) Q ((mb ρ1).bind fun y ρ2 => lift (f x.1 y.1) ρ2) := h1.later st1 (RV.later st1)
  refine hb.bind rfl R1 h1' fun y u ρ2 O2 H2 st2 R2 ry h2 => ?_
  cases e : f x.1 y.1 with
  | none => rw [e] at h2; exact h2.elim
  | some z =>
    rw [e] at h2
    exact hl O2 H2 x.1 y.1 z v u Q R2.dom e (Rep.step st2 _ _ rx) ry (h2.go st2 R2)
theorem pm_bin {op : Operator} {r : R2} {f : D → D → Option Vl} (ho : OpR X (binaryOp op) r) (hl : Op2 w r f) (ha : PM X w W a ma) (hb : PM X w W b mb) : PM X w W (.BinOp a op b pos) (mOp2 f ma mb) := by
  obtain ⟨ta, pa, sa⟩ := ha
  obtain ⟨tb, pb, sb⟩ := hb
  exact ⟨_, pe_op ho pa pb, sim_op2 hl sa sb⟩
theorem pm_cmp {op : CmpOp} {r : R2} {f : D → D → Option Vl} (ho : OpR X (compareOp op) r) (hl : Op2 w r f) (ha : PM X w W a ma) (hb : PM X w W b mb) (hm : behindInMarks op b = false) : PM X w W (.Compare a [op] [b] pos) (mOp2 f ma mb) := by
  obtain ⟨ta, pa, sa⟩ := ha
  obtain ⟨tb, pb, sb⟩ := hb
  exact ⟨_, pe_cmpR ho pa pb hm, sim_op2 hl sa sb⟩
theorem pm_ix {r : R2} {f : D → D → Option Vl} (ho : IxR X r) (hl : Op2 w r f) (ha : PM X w W a ma) (hb : PM X w W b mb) (hs : PlainIx b) : PM X w W (.Subscript a b pos) (mOp2 f ma mb) := by
  obtain ⟨ta, pa, sa⟩ := ha
  obtain ⟨tb, pb, sb⟩ := hb
  exact ⟨_, pe_ix ho pa pb hs, sim_op2 hl sa sb⟩
end

/-! ### arguments -/
abbrev MA := En → Rs (List D)
def VlsAt (w : Wd) (ρ' : En) (O' : Av) (H' : Hp) (vs : List V) (xs : List D) : Prop := RepL w O' H' xs vs
def SimA (w : Wd) (W : WX) (ta : TA) (m : MA) : Prop := ∀ (F : Fr) (O : Av) (ρ : En) (σ : St) (H : Hp) (Q : List V → Hp → Prop), F.w = w → Rel F O ρ σ H → Hold F W O σ H (VlsAt F.w) Q (m ρ) → ta σ H Q
def PMA (X : Cx) (w : Wd) (W : WX) (es : List Expr) (m : MA) : Prop := ∃ t, PA X es t ∧ SimA w W t m
def mNil : MA := fun ρ => .ok [] ρ
def mCons (ma : ME) (mr : MA) : MA := fun ρ => (ma ρ).bind fun x ρ1 => (mr ρ1).bind fun xs ρ2 =>   .ok (x.1 :: xs) ρ2
theorem SimA.bind {w : Wd} {W : WX} {ta : TA} {ma : MA} (ha : SimA w W ta ma) {F : Fr} {O : Av} {ρ : En} {σ : St} {H : Hp} (hw : F.w = w) (R : Rel F O ρ σ H) {α β : Type} {RA : En → Av → Hp → β → α → Prop} {Q : β → Hp → Prop} {f : List D → En → Rs α}
    (h : Hold F W O σ H RA Q ((ma ρ).bind f)) {k : List V → Hp → Prop}
    (hk : ∀ (xs : List D) (vs : List V) (ρ1 : En) (O1 : Av) (H1 : Hp), Step O H O1 H1 → Rel F O1 ρ1 σ H1 → RepL F.w O1 H1 xs vs → Hold F W O σ H RA Q (f xs ρ1) → k vs H1) : ta σ H k := by
  refine ha F O ρ σ H k hw R ?_
  cases e : ma ρ with
  | ok x ρ1 =>
    rw [e] at h
    exact fun O1 H1 v st R1 rv => hk x v ρ1 O1 H1 st R1 rv h
  | exc x ρ1 =>
    rw [e] at h
    exact fun O1 H1 cls d st R1 xa => h O1 H1 cls d st R1 xa
  | stuck =>
    rw [e] at h
    exact h
def mCall (f : List D → Option Vl) (ma : MA) : ME := fun ρ => (ma ρ).bind fun xs ρ1 => lift (f xs) ρ1
section
variable {w : Wd} {W : WX} {X : Cx} {pos p : Pos} {e : Expr} {es : List Expr} {ma : ME} {mr : MA} {ta : TE} {tr : TA}
theorem sima_nil : SimA w W tNil mNil := fun F O ρ σ H Q e R hh => hh O H [] (Step.refl O H) R (by simp [VlsAt, RepL])
theorem sima_cons (ha : Sim w W ta ma) (hr : SimA w W tr mr) : SimA w W (tCons ta tr) (mCons ma mr) := fun F O ρ σ H Q e R hh => by
  subst e
  refine ha.bind rfl R hh fun x v ρ1 O1 H1 st1 R1 rx h1 => ?_
  refine hr.bind rfl R1 (h1.later st1 (RB := VlsAt F.w) fun _ _ _ _ _ _ q => q) fun xs vs ρ2 O2 H2 st2 R2 rs h2 => ?_
  refine h2 O2 H2 (v :: vs) st2 R2 ?_
  show RepL _ _ _ (x.1 :: xs) (v :: vs)
  simp only [RepL]
  exact ⟨v, vs, rfl, Rep.step st2 _ _ rx, rs⟩
theorem pma_nil : PMA X w W [] mNil := ⟨_, pa_nil, sima_nil⟩
theorem pma_cons (ha : PM X w W e ma) (hr : PMA X w W es mr) (hs : starEach (e :: es) X.env = (false, eval e X.env) :: starEach es X.env := by rfl) : PMA X w W (e :: es) (mCons ma mr) := by
  obtain ⟨ta, pa, sa⟩ := ha
  obtain ⟨tr, pr, sr⟩ := hr
  exact ⟨_, pa_cons pa pr hs, sima_cons sa sr⟩
theorem sim_call {r : List V → Hp → VK → Prop} {f : List D → Option Vl} (hl : OpN w r f) (ha : SimA w W tr mr) : Sim w W (tCB r tr) (mCall f mr) := fun F O ρ σ H Q e R hh => by
  subst e
  refine ha.bind rfl R hh fun xs vs ρ1 O1 H1 st1 R1 rs h1 => ?_
  cases e : f xs with
  | none => rw [e] at h1; exact h1.elim
  | some z =>
    rw [e] at h1
    exact hl O1 H1 _ z vs Q R1.dom e rs (h1.go st1 R1)
theorem pm_callB {id : String} {x : Str} {r : List V → Hp → VK → Prop} {f : List D → Option Vl} (hc : CallR X (.builtin id) r) (hl : OpN w r f) (hg : Gl X x) (hm : X.mg x = none) (hv : bootBuiltins x = some (.builtin id)) (ha : PMA X w W (e :: es) mr) (hn : x ≠ "__name__" := by decide) (hdb : (x == ("__debug__" : Str)) = false := by decide)
    (he : starEach (e :: es) X.env = (false, eval e X.env) :: starEach es X.env := by rfl) (hpl : (backTo pos (starEach es X.env)).any (·.1) = false := by rfl) : PM X w W (.Call (.Name x p) (e :: es) [] pos) (mCall f mr) := by
  obtain ⟨tr, pr, sr⟩ := ha
  exact ⟨_, pe_callB hc hg hm hv pr hn hdb he hpl, sim_call hl sr⟩
theorem pm_callTy {T : String} {x : Str} {r : List V → Hp → VK → Prop} {f : List D → Option Vl} (hc : CallR X (.type T) r) (hl : OpN w r f) (hg : Gl X x) (hm : X.mg x = none) (hv : bootBuiltins x = some (.type T)) (ha : PMA X w W (e :: es) mr) (hn : x ≠ "__name__" := by decide) (hdb : (x == ("__debug__" : Str)) = false := by decide)
    (he : starEach (e :: es) X.env = (false, eval e X.env) :: starEach es X.env := by rfl) (hpl : (backTo pos (starEach es X.env)).any (·.1) = false := by rfl) : PM X w W (.Call (.Name x p) (e :: es) [] pos) (mCall f mr) := by
  obtain ⟨tr, pr, sr⟩ := ha
  exact ⟨_, pe_callTy hc hg hm hv pr hn hdb he hpl, sim_call hl sr⟩
end
end PM

namespace PM
open PySem L2

/-! ### tests -/
abbrev MT := En → Rs Bool
def RBl : En → Av → Hp → Bool → Bool → Prop := fun _ _ _ b a => b = a
def SimT (w : Wd) (W : WX) (tt : TT) (m : MT) : Prop := ∀ (F : Fr) (O : Av) (ρ : En) (σ : St) (H : Hp) (Q : Bool → Hp → Prop), F.w = w → Rel F O ρ σ H → Hold F W O σ H RBl Q (m ρ) → tt σ H Q
def PMT (X : Cx) (w : Wd) (W : WX) (e : Expr) (m : MT) : Prop := ∃ t, PT X e t ∧ SimT w W t m
def PMW (X : Cx) (w : Wd) (W : WX) (e : Expr) (m : MT) : Prop := ∃ t, PW X e t ∧ SimT w W t m
theorem SimT.bind {w : Wd} {W : WX} {ta : TT} {ma : MT} (ha : SimT w W ta ma) {F : Fr} {O : Av} {ρ : En} {σ : St} {H : Hp} (hw : F.w = w) (R : Rel F O ρ σ H) {α β : Type} {RA : En → Av → Hp → β → α → Prop} {Q : β → Hp → Prop} {f : Bool → En → Rs α}
    (h : Hold F W O σ H RA Q ((ma ρ).bind f)) {k : Bool → Hp → Prop}
    (hk : ∀ (x : Bool) (ρ1 : En) (O1 : Av) (H1 : Hp), Step O H O1 H1 → Rel F O1 ρ1 σ H1 → Hold F W O σ H RA Q (f x ρ1) → k x H1) : ta σ H k := by
  refine ha F O ρ σ H k hw R ?_
  cases e : ma ρ with
  | ok x ρ1 =>
    rw [e] at h
    intro O1 H1 v st R1 rv
    have rv : v = x := rv
    subst rv
    exact hk v ρ1 O1 H1 st R1 h
  | exc x ρ1 =>
    rw [e] at h
    exact fun O1 H1 cls d st R1 xa => h O1 H1 cls d st R1 xa
  | stuck =>
    rw [e] at h
    exact h
def asB : D → Option Bool
  | .bl b => some b
  | _ => none
def mTest (m : ME) : MT := fun ρ => (m ρ).bind fun x ρ1 => lift (asB x.1) ρ1
def mAnd (a b : MT) : MT := fun ρ => (a ρ).bind fun x ρ1 => if x = true then b ρ1 else .ok false ρ1
def mOr (a b : MT) : MT := fun ρ => (a ρ).bind fun x ρ1 => if x = true then .ok true ρ1 else b ρ1
def mNot (a : MT) : MT := fun ρ => (a ρ).bind fun x ρ1 => .ok (!x) ρ1
def mIf (t : MT) (a b : ME) : ME := fun ρ => (t ρ).bind fun x ρ1 => if x = true then a ρ1 else b ρ1
/-- .. as values -/
def mAndV (a b : ME) : ME := fun ρ => (a ρ).bind fun x ρ1 => match asB x.1 with
  | some true => b ρ1
  | some false => .ok (.bl false, false) ρ1
  | none => .stuck
def mOrV (a b : ME) : ME := fun ρ => (a ρ).bind fun x ρ1 => match asB x.1 with
  | some true => .ok (.bl true, false) ρ1
  | some false => b ρ1
  | none => .stuck
def notD (d : D) : Option Vl := (asB d).map fun b => (.bl (!b), false)
def mNotV (a : ME) : ME := mOp1 notD a
/-- a op b op' c -/
def mChain (f g : D → D → Option Vl) (ma mb mc : ME) : ME := fun ρ => (ma ρ).bind fun x ρ1 => (mb ρ1).bind fun y ρ2 => match f x.1 y.1 with
  | some (.bl true, false) => (mc ρ2).bind fun z ρ3 => lift (g y.1 z.1) ρ3
  | some (.bl false, false) => .ok (.bl false, false) ρ2
  | _ => .stuck
section
variable {w : Wd} {W : WX} {X : Cx} {pos : Pos} {a b c : Expr} {ma mb mc : ME} {ta tb tc : TE} {tt uu : TT} {mt mu : MT} {rest : List Expr}
theorem asB_some {d : D} {b : Bool} (h : asB d = some b) : d = .bl b := by
  cases d <;> simp [asB] at h
  rw [h]
theorem rep_bl {O : Av} {H : Hp} {b : Bool} {v : V} (h : Rep w O H (.bl b) v) : v = .bl b := by simpa only [Rep] using h
theorem simt_test (ha : Sim w W ta ma) : SimT w W (tB ta) (mTest ma) := fun F O ρ σ H Q e R hh => by
  subst e
  refine ha.bind rfl R hh fun x v ρ1 O1 H1 st1 R1 rx h1 => ?_
  cases e : asB x.1 with
  | none => rw [e] at h1; exact h1.elim
  | some b =>
    rw [e] at h1
    rw [asB_some e] at rx
    exact ⟨b, rep_bl rx, h1 O1 H1 b st1 R1 rfl⟩
theorem pmt_val (ha : PM X w W a ma) (he : ∀ whole, isTrue a X.env whole = (do let v ← whole; standAt a.pos; holding [v] (truthy v)) := by intro _; rfl) : PMT X w W a (mTest ma) := by
  obtain ⟨ta, pa, sa⟩ := ha
  exact ⟨_, pt_val pa he, simt_test sa⟩
theorem pmt_cmp {op : CmpOp} {r : R2} {f : D → D → Option Vl} (ho : OpR X (compareOp op) r) (hl : Op2 w r f) (ha : PM X w W a ma) (hb : PM X w W b mb) (hm : behindInMarks op b = false) : PMT X w W (.Compare a [op] [b] pos) (mTest (mOp2 f ma mb)) := by
  obtain ⟨ta, pa, sa⟩ := ha
  obtain ⟨tb, pb, sb⟩ := hb
  exact ⟨_, pt_cmpR ho pa pb hm, simt_test (sim_op2 hl sa sb)⟩
theorem simt_and (ha : SimT w W tt mt) (hb : SimT w W uu mu) : SimT w W (tAnd tt uu) (mAnd mt mu) := fun F O ρ σ H Q e R hh => by
  subst e
  refine ha.bind rfl R hh fun x ρ1 O1 H1 st1 R1 h1 => ?_
  cases x with
  | true => exact iteT (hb F O1 ρ1 σ H1 Q rfl R1 (h1.later st1 fun _ _ _ _ _ _ q => q))
  | false => exact iteF (h1 O1 H1 false st1 R1 rfl)
theorem simt_or (ha : SimT w W tt mt) (hb : SimT w W uu mu) : SimT w W (tOr tt uu) (mOr mt mu) := fun F O ρ σ H Q e R hh => by
  subst e
  refine ha.bind rfl R hh fun x ρ1 O1 H1 st1 R1 h1 => ?_
  cases x with
  | true => exact iteT (h1 O1 H1 true st1 R1 rfl)
  | false => exact iteF (hb F O1 ρ1 σ H1 Q rfl R1 (h1.later st1 fun _ _ _ _ _ _ q => q))
theorem simt_not (ha : SimT w W tt mt) : SimT w W (tNot tt) (mNot mt) := fun F O ρ σ H Q e R hh => by
  subst e
  refine ha.bind rfl R hh fun x ρ1 O1 H1 st1 R1 h1 => ?_
  exact h1 O1 H1 (!x) st1 R1 rfl
theorem pmw_and1 (ha : PMT X w W a mt) : PMW X w W (.BoolOp .And [a] pos) mt := by
  obtain ⟨ta, pa, sa⟩ := ha
  exact ⟨_, pw_and1 pa, sa⟩
theorem pmw_or1 (ha : PMT X w W a mt) : PMW X w W (.BoolOp .Or [a] pos) mt := by
  obtain ⟨ta, pa, sa⟩ := ha
  exact ⟨_, pw_or1 pa, sa⟩
theorem pmw_and (ha : PMT X w W a mt) (hb : PMW X w W (.BoolOp .And (b :: rest) pos) mu) : PMW X w W (.BoolOp .And (a :: b :: rest) pos) (mAnd mt mu) := by
  obtain ⟨ta, pa, sa⟩ := ha
  obtain ⟨tb, pb, sb⟩ := hb
  exact ⟨_, pw_and pa pb, simt_and sa sb⟩
theorem pmw_or (ha : PMT X w W a mt) (hb : PMW X w W (.BoolOp .Or (b :: rest) pos) mu) : PMW X w W (.BoolOp .Or (a :: b :: rest) pos) (mOr mt mu) := by
  obtain ⟨ta, pa, sa⟩ := ha
  obtain ⟨tb, pb, sb⟩ := hb
  exact ⟨_, pw_or pa pb, simt_or sa sb⟩
theorem PMW.pt (h : PMW X w W a mt) : PMT X w W a mt := by
  obtain ⟨t, p, s⟩ := h
  exact ⟨t, p.pt, s⟩
theorem pmt_not (ha : PMT X w W a mt) : PMT X w W (.UnaryOp .Not a pos) (mNot mt) := by
  obtain ⟨ta, pa, sa⟩ := ha
  exact ⟨_, pt_not pa, simt_not sa⟩
theorem sim_if (ht : SimT w W tt mt) (ha : Sim w W ta ma) (hb : Sim w W tb mb) : Sim w W (tIf tt ta tb) (mIf mt ma mb) := fun F O ρ σ H Q e R hh => by
  subst e
  refine ht.bind rfl R hh fun x ρ1 O1 H1 st1 R1 h1 => ?_
  cases x with
  | true => exact iteT (ha F O1 ρ1 σ H1 Q rfl R1 (h1.laterV st1))
  | false => exact iteF (hb F O1 ρ1 σ H1 Q rfl R1 (h1.laterV st1))
theorem pm_if (ht : PMT X w W c mt) (ha : PM X w W a ma) (hb : PM X w W b mb) : PM X w W (.IfExp c a b pos) (mIf mt ma mb) := by
  obtain ⟨tt, pt, st⟩ := ht
  obtain ⟨ta, pa, sa⟩ := ha
  obtain ⟨tb, pb, sb⟩ := hb
  exact ⟨_, pe_ifExp pt pa pb, sim_if st sa sb⟩
theorem Hold.bl {F : Fr} {W : WX} {O O1 : Av} {σ : St} {H H1 : Hp} {ρ1 : En} {Q : VK} {b : Bool} (h : Hold F W O σ H (RV F σ H) Q (.ok (.bl b, false) ρ1)) (st : Step O H O1 H1) (R : Rel F O1 ρ1 σ H1) : Q (.bl b) H1 :=
  (h.go st R).val (by simp only [Rep])
theorem sim_andV (ha : Sim w W ta ma) (hb : Sim w W tb mb) : Sim w W (tAndV ta tb) (mAndV ma mb) := fun F O ρ σ H Q e R hh => by
  subst e
  refine ha.bind rfl R hh fun x v ρ1 O1 H1 st1 R1 rx h1 => ?_
  cases e : asB x.1 with
  | none => rw [e] at h1; exact h1.elim
  | some c =>
    rw [e] at h1
    rw [asB_some e] at rx
    refine ⟨c, rep_bl rx, ?_⟩
    cases c with
    | true => exact iteT (hb F O1 ρ1 σ H1 Q rfl R1 (h1.laterV st1))
    | false => exact iteF (h1.bl st1 R1)
theorem sim_orV (ha : Sim w W ta ma) (hb : Sim w W tb mb) : Sim w W (tOrV ta tb) (mOrV ma mb) := fun F O ρ σ H Q e R hh => by
  subst e
  refine ha.bind rfl R hh fun x v ρ1 O1 H1 st1 R1 rx h1 => ?_
  cases e : asB x.1 with
  | none => rw [e] at h1; exact h1.elim
  | some c =>
    rw [e] at h1
    rw [asB_some e] at rx
    refine ⟨c, rep_bl rx, ?_⟩
    cases c with
    | true => exact iteT (h1.bl st1 R1)
    | false => exact iteF (hb F O1 ρ1 σ H1 Q rfl R1 (h1.laterV st1))
theorem pm_one {op} (ha : PM X w W a ma) : PM X w W (.BoolOp op [a] pos) ma := by
  obtain ⟨ta, pa, sa⟩ := ha
  exact ⟨_, pe_one pa, sa⟩
theorem pm_and (ha : PM X w W a ma) (hb : PM X w W (.BoolOp .And (b :: rest) pos) mb) : PM X w W (.BoolOp .And (a :: b :: rest) pos) (mAndV ma mb) := by
  obtain ⟨ta, pa, sa⟩ := ha
  obtain ⟨tb, pb, sb⟩ := hb
  exact ⟨_, pe_and pa pb, sim_andV sa sb⟩
theorem pm_or (ha : PM X w W a ma) (hb : PM X w W (.BoolOp .Or (b :: rest) pos) mb) : PM X w W (.BoolOp .Or (a :: b :: rest) pos) (mOrV ma mb) := by
  obtain ⟨ta, pa, sa⟩ := ha
  obtain ⟨tb, pb, sb⟩ := hb
  exact ⟨_, pe_or pa pb, sim_orV sa sb⟩
/-! ### displays -/
def mTup (ma : MA) : ME := fun ρ => (ma ρ).bind fun xs ρ1 => if xs.length ≤ sizeLine then .ok (.tup xs, false) ρ1 else .stuck
def mLst (ma : MA) : ME := fun ρ => (ma ρ).bind fun xs ρ1 => if xs.length ≤ sizeLine then .ok (.lst xs, true) ρ1 else .stuck
theorem RepL.length {O : Av} {H : Hp} : ∀ {ds : List D} {vs : List V}, RepL w O H ds vs → vs.length = ds.length
  | [], vs, h => by
    simp only [RepL] at h
    rw [h] <;> rfl
  | d :: ds, vs, h => by
    simp only [RepL] at h
    obtain ⟨v, vs', e, _, h2⟩ := h
    rw [e]
    simp [RepL.length h2]
theorem pm_tup {es : List Expr} {k} {mr : MA} (h : PMA X w W es mr) : PM X w W (.Tuple es k pos) (mTup mr) := by
  obtain ⟨t, p, s⟩ := h
  refine ⟨_, pe_tup p, fun F O ρ σ H Q e R hh => ?_⟩
  subst e
  refine s.bind rfl R hh fun xs vs ρ1 O1 H1 st1 R1 rs h1 => ?_
  split at h1
  · rename_i hz
    exact ⟨by rw [rs.length]; exact hz, fun p hp => (h1.go st1 R1).newT R1.dom rs hp⟩
  · exact h1.elim
theorem pm_lst {es : List Expr} {mr : MA} (h : PMA X w W es mr) : PM X w W (.List es pos) (mLst mr) := by
  obtain ⟨t, p, s⟩ := h
  refine ⟨_, pe_lst p, fun F O ρ σ H Q e R hh => ?_⟩
  subst e
  refine s.bind rfl R hh fun xs vs ρ1 O1 H1 st1 R1 rs h1 => ?_
  split at h1
  · rename_i hz
    exact ⟨by rw [rs.length]; exact hz, fun p hp => (h1.go st1 R1).newL rs hp⟩
  · exact h1.elim
end
end PM

namespace PM
open PySem L2

/-! ### slots change -/
def notIo : Option Sl → Bool
  | some (.io _) => false
  | some _ => true
  | none => false
theorem get_set {α : Type} {l : List α} {i j : Nat} {x y : α} (h : (l.set i x)[j]? = some y) : (i = j ∧ y = x) ∨ (i ≠ j ∧ l[j]? = some y) := by
  by_cases e : i = j
  · subst e
    rw [List.getElem?_set_self'] at h
    cases q : l[i]? with
    | none => rw [q] at h; cases h
    | some z => rw [q] at h; cases h; exact .inl ⟨rfl, rfl⟩
  · rw [List.getElem?_set_ne e] at h
    exact .inr ⟨e, h⟩
theorem lt_of_get {α : Type} {l : List α} {i : Nat} {x : α} (h : l[i]? = some x) : i < l.length := (List.getElem?_eq_some_iff.mp h).1
section
variable {F : Fr} {O : Av} {ρ : En} {σ : St} {H : Hp}
theorem Rel.setV (R : Rel F O ρ σ H) {i : Nat} {d : D} {v : V} (h : Rep F.w O H d v) (hi : notIo (ρ[i]?) = true) : Rel F O (ρ.set i (.val d)) (σ.set i (some v)) H := by
  have hl : i < ρ.length := by
    cases e : ρ[i]? with
    | none => rw [e] at hi; cases hi
    | some s => exact lt_of_get e
  have hs : i < σ.length := by rw [← R.len]; exact hl
  refine ⟨by simp [R.len], R.b0, R.bh, R.ib, R.dom, R.doh, R.keep, fun j s e => ?_, fun j k s t e1 e2 m1 m2 q => ?_, R.tab⟩
  · rcases get_set e with ⟨e1, e2⟩ | ⟨e1, e2⟩
    · subst e1
      subst e2
      exact ⟨v, List.getElem?_set_self hs, h⟩
    · rw [List.getElem?_set_ne e1]
      exact R.slot j s e2
  · rcases get_set e1 with ⟨a1, a2⟩ | ⟨a1, a2⟩
    · subst a2; cases m1
    · rcases get_set e2 with ⟨b1, b2⟩ | ⟨b1, b2⟩
      · subst b2; cases m2
      · rw [List.getElem?_set_ne a1, List.getElem?_set_ne b1] at q
        exact R.dist j k s t a2 b2 m1 m2 q
theorem Rel.setO (R : Rel F O ρ σ H) {i : Nat} {m : Mu} {a : Addr} (h : MuAt F.w O H a m) (ho : O a) (he : F.He a = none) (ap : Apart ρ σ a) (hi : notIo (ρ[i]?) = true) : Rel F O (ρ.set i (.own m)) (σ.set i (some (.ref a))) H := by
  have hl : i < ρ.length := by
    cases e : ρ[i]? with
    | none => rw [e] at hi; cases hi
    | some s => exact lt_of_get e
  have hs : i < σ.length := by rw [← R.len]; exact hl
  refine ⟨by simp [R.len], R.b0, R.bh, R.ib, R.dom, R.doh, R.keep, fun j s e => ?_, fun j k s t e1 e2 m1 m2 q => ?_, R.tab⟩
  · rcases get_set e with ⟨e1, e2⟩ | ⟨e1, e2⟩
    · subst e1
      subst e2
      exact ⟨a, List.getElem?_set_self hs, ho, he, h⟩
    · rw [List.getElem?_set_ne e1]
      exact R.slot j s e2
  · rcases get_set e1 with ⟨a1, a2⟩ | ⟨a1, a2⟩
    · rcases get_set e2 with ⟨b1, b2⟩ | ⟨b1, b2⟩
      · exact a1.symm.trans b1
      · subst a1
        rw [List.getElem?_set_self hs, List.getElem?_set_ne b1] at q
        exact absurd q.symm (ap k t b2 m2)
    · rcases get_set e2 with ⟨b1, b2⟩ | ⟨b1, b2⟩
      · subst b1
        rw [List.getElem?_set_self hs, List.getElem?_set_ne a1] at q
        exact absurd q (ap j s a2 m1)
      · rw [List.getElem?_set_ne a1, List.getElem?_set_ne b1] at q
        exact R.dist j k s t a2 b2 m1 m2 q
/-- a slot is emptied -/
theorem Rel.setN (R : Rel F O ρ σ H) {i : Nat} : Rel F O (ρ.set i .non) σ H := by
  refine ⟨by simp [R.len], R.b0, R.bh, R.ib, R.dom, R.doh, R.keep, fun j s e => ?_, fun j k s t e1 e2 m1 m2 q => ?_, R.tab⟩
  · rcases get_set e with ⟨e1, e2⟩ | ⟨e1, e2⟩
    · subst e2
      trivial
    · exact R.slot j s e2
  · rcases get_set e1 with ⟨a1, a2⟩ | ⟨a1, a2⟩
    · subst a2; cases m1
    · rcases get_set e2 with ⟨b1, b2⟩ | ⟨b1, b2⟩
      · subst b2; cases m2
      · exact R.dist j k s t a2 b2 m1 m2 q
/-- the content of a slot -/
def Sl.get : Sl → Option Mu
  | .own m => some m
  | .io m => some m
  | _ => none
def Sl.put : Sl → Mu → Sl
  | .own _, m => .own m
  | .io _, m => .io m
  | s, _ => s
theorem Rel.muAt (R : Rel F O ρ σ H) {i : Nat} {s : Sl} {m : Mu} (e : ρ[i]? = some s) (h : s.get = some m) : ∃ a, σ[i]? = some (some (.ref a)) ∧ O a ∧ MuAt F.w O H a m := by
  have q := R.slot i s e
  cases s with
  | non => cases h
  | val d => cases h
  | own m' =>
    cases h
    obtain ⟨a, e1, e2, e3, e4⟩ := q
    exact ⟨a, e1, e2, e4⟩
  | io m' =>
    cases h
    obtain ⟨a, e1, e2, e4⟩ := q
    exact ⟨a, e1, R.b0 a (R.ib i a e2), e4⟩
theorem Rel.ntab (R : Rel F O ρ σ H) {i : Nat} {s : Sl} {m : Mu} {a : Addr} (e : ρ[i]? = some s) (h : s.get = some m) (ea : σ[i]? = some (some (.ref a))) : ∀ p ∈ F.w.T, p.1 ≠ a := by
  obtain ⟨b, eb, _, hm⟩ := R.muAt e h
  rw [ea] at eb
  cases eb
  exact R.tab.ne hm.ntab
theorem mut_step {a : Addr} {o' : HO} (h : O a) : Step O H O (upd H a o') := ⟨fun _ q => .inl q, fun b o n e => (upd_ne (fun z : b = a => n (by rw [z]; exact h))).trans e, fun b q => by
  by_cases e : b = a
  · subst e; rw [upd_same]; simp
  · rw [upd_ne e]; exact q⟩
theorem Rel.mut (R : Rel F O ρ σ H) {i : Nat} {s : Sl} {m m' : Mu} {a : Addr} {o' : HO} (e : ρ[i]? = some s) (h : s.get = some m) (ea : σ[i]? = some (some (.ref a))) (ho : O a) (h' : MuAt F.w O (upd H a o') a m') :
    Rel F O (ρ.set i (s.put m')) σ (upd H a o') := by
  have st : Step O H O (upd H a o') := mut_step ho
  have hmu : s.mu = true := by cases s <;> first | rfl | cases h
  have hget : ∀ {b : Addr} {o : HO}, H b = some o → b ≠ a → (upd H a o') b = some o := fun q n => by rw [upd_ne n]; exact q
  refine ⟨by simp [R.len], R.b0, R.bh, R.ib, fun b q => st.dom b (R.dom b q), fun b q => st.dom b (R.doh b q), fun b o q n => ?_, fun j t e1 => ?_, fun j k t u e1 e2 m1 m2 q => ?_, R.tab.stepB st (fun b o n e => hget e n) (R.ntab e h ea)⟩
  · have hb := R.keep b o q n
    refine hget hb fun z => ?_
    subst z
    have q2 := R.slot i s e
    cases s with
    | non => cases h
    | val d => cases h
    | own m0 =>
      obtain ⟨c, c1, c2, c3, c4⟩ := q2
      rw [ea] at c1
      cases c1
      rw [q] at c3
      cases c3
    | io m0 =>
      obtain ⟨c, c1, c2, c4⟩ := q2
      rw [ea] at c1
      cases c1
      exact n i c2
  · rcases get_set e1 with ⟨a1, a2⟩ | ⟨a1, a2⟩
    · subst a1
      subst a2
      have q2 := R.slot i s e
      cases s with
      | non => cases h
      | val d => cases h
      | own m0 =>
        obtain ⟨c, c1, c2, c3, c4⟩ := q2
        rw [ea] at c1
        cases c1
        exact ⟨a, ea, ho, c3, h'⟩
      | io m0 =>
        obtain ⟨c, c1, c2, c4⟩ := q2
        rw [ea] at c1
        cases c1
        exact ⟨a, ea, c2, h'⟩
    · have q2 := R.slot j t a2
      cases t with
      | non => trivial
      | val d =>
        obtain ⟨v, c1, c2⟩ := q2
        exact ⟨v, c1, Rep.step st d v c2⟩
      | own m0 =>
        obtain ⟨c, c1, c2, c3, c4⟩ := q2
        refine ⟨c, c1, c2, c3, c4.step st (upd_ne fun z => ?_)⟩
        subst z
        exact a1 (R.dist i j s _ e a2 hmu rfl (ea.trans c1.symm))
      | io m0 =>
        obtain ⟨c, c1, c2, c4⟩ := q2
        refine ⟨c, c1, c2, c4.step st (upd_ne fun z => ?_)⟩
        subst z
        exact a1 (R.dist i j s _ e a2 hmu rfl (ea.trans c1.symm))
  · have key : ∀ (j : Nat) (t : Sl), (ρ.set i (s.put m'))[j]? = some t → t.mu = true → ∃ t', ρ[j]? = some t' ∧ t'.mu = true := fun j t e1 m1 => by
      rcases get_set e1 with ⟨a1, a2⟩ | ⟨a1, a2⟩
      · subst a1
        exact ⟨s, e, hmu⟩
      · exact ⟨t, a2, m1⟩
    obtain ⟨t', f1, f2⟩ := key j t e1 m1
    obtain ⟨u', g1, g2⟩ := key k u e2 m2
    exact R.dist j k t' u' f1 g1 f2 g2 q
end

/-! ### statements -/
inductive Fl where
  | nx | rt (v : Vl) | bk | ct
abbrev MS := En → Rs Fl
def RetAt (F : Fr) (O' : Av) (H' : Hp) (v : V) (x : Vl) : Prop := match x.2 with
  | false => Rep F.w O' H' x.1 v
  | true => ∃ a m, v = .ref a ∧ F.He a = none ∧ O' a ∧ m.is x.1 ∧ MuAt F.w O' H' a m
def HoldS (F : Fr) (W : WX) (O : Av) (H : Hp) (E : Ends) : Rs Fl → Prop
  | .ok .nx ρ' => ∀ O' σ' H', Step O H O' H' → Rel F O' ρ' σ' H' → E.nx σ' H'
  | .ok (.rt x) ρ' => ∀ O' σ' H' v, Step O H O' H' → Rel F O' ρ' σ' H' → RetAt F O' H' v x → E.rt v H'
  | .ok .bk ρ' => ∀ O' σ' H', Step O H O' H' → Rel F O' ρ' σ' H' → E.bk σ' H'
  | .ok .ct ρ' => ∀ O' σ' H', Step O H O' H' → Rel F O' ρ' σ' H' → E.ct σ' H'
  | .exc x ρ' => ∀ O' σ' H' cls d, Step O H O' H' → Rel F O' ρ' σ' H' → XcAt F.w O' H' cls d x → W cls d σ' H'
  | .stuck => False
theorem HoldS.later {F : Fr} {W : WX} {O O1 : Av} {H H1 : Hp} {E : Ends} (s : Step O H O1 H1) : ∀ {r : Rs Fl}, HoldS F W O H E r → HoldS F W O1 H1 E r
  | .ok .nx _, h => fun O' σ' H' st R => h O' σ' H' (s.trans st) R
  | .ok (.rt x) _, h => fun O' σ' H' v st R rv => h O' σ' H' v (s.trans st) R rv
  | .ok .bk _, h => fun O' σ' H' st R => h O' σ' H' (s.trans st) R
  | .ok .ct _, h => fun O' σ' H' st R => h O' σ' H' (s.trans st) R
  | .exc _ _, h => fun O' σ' H' cls d st R xa => h O' σ' H' cls d (s.trans st) R xa
  | .stuck, h => h
def SimS (w : Wd) (W : WX) (ts : TS) (m : MS) : Prop := ∀ (F : Fr) (O : Av) (ρ : En) (σ : St) (H : Hp) (E : Ends), F.w = w → Rel F O ρ σ H → HoldS F W O H E (m ρ) → ts E σ H
def PMS (X : Cx) (w : Wd) (W : WX) (st : Stmt) (m : MS) : Prop := ∃ t, PS X st t ∧ SimS w W t m
def PMSs (X : Cx) (w : Wd) (W : WX) (st : List Stmt) (m : MS) : Prop := ∃ t, PSs X st t ∧ SimS w W t m

/-- an expression, then a statement's rest -/
theorem Sim.bindS {w : Wd} {W : WX} {ta : TE} {ma : ME} (ha : Sim w W ta ma) {F : Fr} {O : Av} {ρ : En} {σ : St} {H : Hp} (hw : F.w = w) (R : Rel F O ρ σ H) {E : Ends} {f : Vl → En → Rs Fl} (h : HoldS F W O H E ((ma ρ).bind f)) {k : V → Hp → Prop}
    (hk : ∀ (x : Vl) (v : V) (ρ1 : En) (O1 : Av) (H1 : Hp), Step O H O1 H1 → Rel F O1 ρ1 σ H1 → VlAt F.w σ H ρ1 O1 H1 v x → HoldS F W O1 H1 E (f x ρ1) → k v H1) : ta σ H k := by
  refine ha F O ρ σ H k hw R ?_
  cases e : ma ρ with
  | ok x ρ1 =>
    rw [e] at h
    exact fun O1 H1 v st R1 rv => hk x v ρ1 O1 H1 st R1 rv (h.later st)
  | exc x ρ1 =>
    rw [e] at h
    exact fun O1 H1 cls d st R1 xa => h O1 σ H1 cls d st R1 xa
  | stuck =>
    rw [e] at h
    exact h
theorem SimT.bindS {w : Wd} {W : WX} {ta : TT} {ma : MT} (ha : SimT w W ta ma) {F : Fr} {O : Av} {ρ : En} {σ : St} {H : Hp} (hw : F.w = w) (R : Rel F O ρ σ H) {E : Ends} {f : Bool → En → Rs Fl} (h : HoldS F W O H E ((ma ρ).bind f)) {k : Bool → Hp → Prop}
    (hk : ∀ (x : Bool) (ρ1 : En) (O1 : Av) (H1 : Hp), Step O H O1 H1 → Rel F O1 ρ1 σ H1 → HoldS F W O1 H1 E (f x ρ1) → k x H1) : ta σ H k := by
  refine ha F O ρ σ H k hw R ?_
  cases e : ma ρ with
  | ok x ρ1 =>
    rw [e] at h
    intro O1 H1 v st R1 rv
    have rv : v = x := rv
    subst rv
    exact hk v ρ1 O1 H1 st R1 (h.later st)
  | exc x ρ1 =>
    rw [e] at h
    exact fun O1 H1 cls d st R1 xa => h O1 σ H1 cls d st R1 xa
  | stuck =>
    rw [e] at h
    exact h
theorem SimA.bindS {w : Wd} {W : WX} {ta : TA} {ma : MA} (ha : SimA w W ta ma) {F : Fr} {O : Av} {ρ : En} {σ : St} {H : Hp} (hw : F.w = w) (R : Rel F O ρ σ H) {E : Ends} {f : List D → En → Rs Fl} (h : HoldS F W O H E ((ma ρ).bind f)) {k : List V → Hp → Prop}
    (hk : ∀ (x : List D) (v : List V) (ρ1 : En) (O1 : Av) (H1 : Hp), Step O H O1 H1 → Rel F O1 ρ1 σ H1 → RepL F.w O1 H1 x v → HoldS F W O1 H1 E (f x ρ1) → k v H1) : ta σ H k := by
  refine ha F O ρ σ H k hw R ?_
  cases e : ma ρ with
  | ok x ρ1 =>
    rw [e] at h
    exact fun O1 H1 v st R1 rv => hk x v ρ1 O1 H1 st R1 rv (h.later st)
  | exc x ρ1 =>
    rw [e] at h
    exact fun O1 H1 cls d st R1 xa => h O1 σ H1 cls d st R1 xa
  | stuck =>
    rw [e] at h
    exact h

def mSeq (a b : MS) : MS := fun ρ => match a ρ with
  | .ok .nx ρ1 => b ρ1
  | r => r
def mNext : MS := fun ρ => .ok .nx ρ
def mIfS (t : MT) (a b : MS) : MS := fun ρ => (t ρ).bind fun x ρ1 => if x = true then a ρ1 else b ρ1
def mRet (m : ME) : MS := fun ρ => (m ρ).bind fun x ρ1 => .ok (.rt x) ρ1
def mRetN : MS := fun ρ => .ok (.rt (.non, false)) ρ
/-- return x, x one's own list -/
def mRetO (i : Nat) : MS := fun ρ => match ρ[i]? with
  | some (.own (.lst ds)) => .ok (.rt (.lst ds, true)) (ρ.set i .non)
  | some (.own (.dct ks vs)) => .ok (.rt (.dct ks vs, true)) (ρ.set i .non)
  | _ => .stuck
def mExpr (m : ME) : MS := fun ρ => (m ρ).bind fun _ ρ1 => .ok .nx ρ1
def setV (i : Nat) (d : D) (ρ : En) : Option En := if notIo (ρ[i]?) = true then some (ρ.set i (.val d)) else none
def nxt (o : Option En) : Rs Fl := match o with
  | some ρ => .ok .nx ρ
  | none => .stuck
def mAsg (i : Nat) (m : ME) : MS := fun ρ => (m ρ).bind fun x ρ1 => nxt (setV i x.1 ρ1)
def toMu : Vl → Option Mu
  | (.lst ds, true) => some (.lst ds)
  | (.dct ks vs, true) => some (.dct ks vs)
  | _ => none
def setO (i : Nat) (x : Vl) (ρ : En) : Option En := if notIo (ρ[i]?) = true then (toMu x).map fun m => ρ.set i (.own m) else none
/-- x = e, x one's own list from then on -/
def mAsgO (i : Nat) (m : ME) : MS := fun ρ => (m ρ).bind fun x ρ1 => nxt (setO i x ρ1)
def mDead : MS := fun _ => .stuck
/-- a target: a name, several names -/
abbrev MG := D → En → Option En
def gN (i : Nat) : MG := fun d ρ => setV i d ρ
def gTs : List MG → List D → En → Option En
  | [], [], ρ => some ρ
  | g :: gs, d :: ds, ρ => (g d ρ).bind fun ρ1 => gTs gs ds ρ1
  | _, _, _ => none
def gT (gs : List MG) : MG := fun d ρ => match d with
  | .tup ds => gTs gs ds ρ
  | _ => none
def mAsgG (g : MG) (m : ME) : MS := fun ρ => (m ρ).bind fun x ρ1 => nxt (g x.1 ρ1)

theorem toMu_is {x : Vl} {m m' : Mu} (h : toMu x = some m) (e : m'.is x.1) : x.2 = true ∧ m = m' := by
  obtain ⟨d, b⟩ := x
  cases d <;> cases b <;> simp [toMu] at h <;> subst h <;> cases m' <;> simp [Mu.is] at e ⊢ <;> simp [e]
theorem toMu_fr {x : Vl} {m : Mu} (h : toMu x = some m) : x.2 = true := by
  obtain ⟨d, b⟩ := x
  cases d <;> cases b <;> simp [toMu] at h <;> rfl
section
variable {w : Wd} {W : WX} {X : Cx} {pos pos' : Pos} {a b c e : Expr} {ma mb mc m : ME} {ta tb tc te : TE} {tt uu : TT} {mt mu : MT} {st : Stmt} {rest body : List Stmt} {ms mr : MS} {ts tr : TS}
theorem sims_seq (h1 : SimS w W ts ms) (h2 : SimS w W tr mr) : SimS w W (tSeq ts tr) (mSeq ms mr) := fun F O ρ σ H E hw R hh => by
  refine h1 F O ρ σ H _ hw R ?_
  unfold mSeq at hh
  cases q : ms ρ with
  | ok f ρ1 =>
    rw [q] at hh
    cases f with
    | nx => exact fun O' σ' H' st R' => h2 F O' ρ1 σ' H' E hw R' (hh.later st)
    | rt x => exact hh
    | bk => exact hh
    | ct => exact hh
  | exc x ρ1 => rw [q] at hh; exact hh
  | stuck => rw [q] at hh; exact hh
theorem pms_nil : PMSs X w W [] mNext := ⟨_, pss_nil, fun F O ρ σ H E hw R hh => hh O σ H (Step.refl _ _) R⟩
theorem pms_cons (h1 : PMS X w W st ms) (h2 : PMSs X w W rest mr) : PMSs X w W (st :: rest) (mSeq ms mr) := by
  obtain ⟨t1, p1, s1⟩ := h1
  obtain ⟨t2, p2, s2⟩ := h2
  exact ⟨_, pss_cons p1 p2, sims_seq s1 s2⟩
theorem pms_one (h1 : PMS X w W st ms) : PMSs X w W [st] ms := by
  obtain ⟨t1, p1, s1⟩ := h1
  exact ⟨_, pss_one p1, s1⟩
theorem pms_if (ht : PMT X w W c mt) (ha : PMSs X w W body ms) (hb : PMSs X w W rest mr) : PMS X w W (.If c body rest pos) (mIfS mt ms mr) := by
  obtain ⟨tt, pt, stt⟩ := ht
  obtain ⟨t1, p1, s1⟩ := ha
  obtain ⟨t2, p2, s2⟩ := hb
  refine ⟨_, ps_if pt p1 p2, fun F O ρ σ H E hw R hh => ?_⟩
  refine stt.bindS hw R hh fun x ρ1 O1 H1 st1 R1 h1 => ?_
  cases x with
  | true => exact iteT (s1 F O1 ρ1 σ H1 E hw R1 h1)
  | false => exact iteF (s2 F O1 ρ1 σ H1 E hw R1 h1)
theorem VlAt.ret {F : Fr} {σ : St} {ρ' ρ0 : En} {O0 O' : Av} {H H' : Hp} {v : V} (R : Rel F O0 ρ0 σ H) : ∀ {x : Vl}, VlAt F.w σ H ρ' O' H' v x → RetAt F O' H' v x
  | (d, false), h => h
  | (d, true), ⟨a, m, e1, e2, e3, e4, e5, _⟩ => ⟨a, m, e1, R.freshE e2, e3, e4, e5⟩
theorem pms_ret (he : PM X w W e m) : PMS X w W (.Return (some e) pos) (mRet m) := by
  obtain ⟨te, pe, se⟩ := he
  refine ⟨_, ps_ret pe, fun F O ρ σ H E hw R hh => ?_⟩
  exact se.bindS hw R hh fun x v ρ1 O1 H1 st1 R1 rv h1 => h1 O1 σ H1 v (Step.refl _ _) R1 (VlAt.ret R rv)
theorem pms_retO {x : Str} (i : Nat) (hN : X.N[i]? = some x := by rfl) (hv : Vis X.env.scope x := by first | exact Or.inl rfl | exact Or.inr (Or.inl rfl) | exact Or.inr (Or.inr rfl)) (hd : (x == ("__debug__" : Str)) = false := by decide)
    (hcd : (x == ("__classdict__" : Str)) = false := by decide) : PMS X w W (.Return (some (.Name x pos')) pos) (mRetO i) := by
  refine ⟨_, ps_ret (pv i hN hv hd hcd), fun F O ρ σ H E hw R hh => ?_⟩
  unfold mRetO at hh
  split at hh
  · rename_i ds e
    obtain ⟨a, e1, e2, e3, e4⟩ := R.slot i _ e
    exact ⟨_, e1, hh O σ H _ (Step.refl _ _) R.setN ⟨a, .lst ds, rfl, e3, e2, rfl, e4⟩⟩
  · rename_i ks vs e
    obtain ⟨a, e1, e2, e3, e4⟩ := R.slot i _ e
    exact ⟨_, e1, hh O σ H _ (Step.refl _ _) R.setN ⟨a, .dct ks vs, rfl, e3, e2, rfl, e4⟩⟩
  · exact hh.elim
theorem pms_expr (he : PM X w W e m) (hs : swapsWith e none pos.line X.env = pure false := by rfl) : PMS X w W (.Expr e pos) (mExpr m) := by
  obtain ⟨te, pe, se⟩ := he
  refine ⟨_, ps_expr pe hs, fun F O ρ σ H E hw R hh => ?_⟩
  exact se.bindS hw R hh fun x v ρ1 O1 H1 st1 R1 rv h1 => h1 O1 σ H1 (Step.refl _ _) R1
theorem setV_rel {F : Fr} {O : Av} {ρ ρ' : En} {σ : St} {H : Hp} {i : Nat} {d : D} {v : V} (R : Rel F O ρ σ H) (h : Rep F.w O H d v) (e : setV i d ρ = some ρ') : Rel F O ρ' (σ.set i (some v)) H := by
  unfold setV at e
  split at e
  · rename_i hi
    cases e
    exact R.setV h hi
  · cases e
theorem pms_set {i : Nat} {x : Str} (hN : X.N.Nodup) (hi : X.N[i]? = some x) (hx : Loc X.env.scope x) (he : PM X w W e m) (hs : swapsWith e (some (.Name x pos')) pos.line X.env = pure false := by rfl) (hf : X.fn x = true ∨ X.env.scope.names.lookup x = some .local := by first | exact .inl rfl | exact .inr rfl | assumption) :
    PMS X w W (.Assign [.Name x pos'] e pos) (mAsg i m) := by
  obtain ⟨te, pe, se⟩ := he
  refine ⟨_, ps_set hN hi hx pe hs hf, fun F O ρ σ H E hw R hh => ?_⟩
  refine se.bindS hw R hh fun x v ρ1 O1 H1 st1 R1 rv h1 => ?_
  obtain ⟨O2, s2, R2, r2, s3⟩ := VlAt.release st1 R1 R.doh rv
  show E.nx _ _
  cases q : setV i x.1 ρ1 with
  | none => rw [q] at h1; exact h1.elim
  | some ρ2 =>
    rw [q] at h1
    exact h1 O2 _ H1 s3 (setV_rel R2 r2 q)
theorem setO_rel {F : Fr} {O0 O : Av} {ρ0 ρ ρ' : En} {σ : St} {H0 H : Hp} {i : Nat} {x : Vl} {v : V} (R0 : Rel F O0 ρ0 σ H0) (R : Rel F O ρ σ H) (h : VlAt F.w σ H0 ρ O H v x) (e : setO i x ρ = some ρ') : Rel F O ρ' (σ.set i (some v)) H := by
  unfold setO at e
  split at e
  · rename_i hi
    cases q : toMu x with
    | none => rw [q] at e; cases e
    | some mm =>
      rw [q] at e
      cases e
      unfold VlAt at h
      rw [toMu_fr q] at h
      obtain ⟨a, m', e1, e2, e3, e4, e5, e6⟩ := h
      have z := (toMu_is q e4).2
      subst z
      subst e1
      exact R.setO e5 e3 (R0.freshE e2) e6 hi
  · cases e
theorem pms_setO {i : Nat} {x : Str} (hN : X.N.Nodup) (hi : X.N[i]? = some x) (hx : Loc X.env.scope x) (he : PM X w W e m) (hs : swapsWith e (some (.Name x pos')) pos.line X.env = pure false := by rfl) (hf : X.fn x = true ∨ X.env.scope.names.lookup x = some .local := by first | exact .inl rfl | exact .inr rfl | assumption) :
    PMS X w W (.Assign [.Name x pos'] e pos) (mAsgO i m) := by
  obtain ⟨te, pe, se⟩ := he
  refine ⟨_, ps_set hN hi hx pe hs hf, fun F O ρ σ H E hw R hh => ?_⟩
  refine se.bindS hw R hh fun x v ρ1 O1 H1 st1 R1 rv h1 => ?_
  show E.nx _ _
  cases q : setO i x ρ1 with
  | none => rw [q] at h1; exact h1.elim
  | some ρ2 =>
    rw [q] at h1
    exact h1 O1 _ H1 (Step.refl _ _) (setO_rel R R1 rv q)
/-! ### targets -/
/-- the slots outside is stay -/
def Out (js : List Nat) (σ σ1 : St) : Prop := ∀ vs : List Nat, (∀ j ∈ js, j ∈ vs) → wipe σ1 vs = wipe σ vs
def SimG (w : Wd) (g : TG) (m : MG) (js : List Nat) : Prop := ∀ (F : Fr) (O : Av) (ρ ρ1 : En) (σ : St) (H : Hp) (v : V) (d : D) (Q : St → Hp → Prop), F.w = w → Rel F O ρ σ H → Rep F.w O H d v → m d ρ = some ρ1 → (∀ σ1, Rel F O ρ1 σ1 H → Out js σ σ1 → Q σ1 H) → g v σ H Q
def SimGs (w : Wd) (g : TGs) (ms : List MG) (js : List Nat) : Prop := ∀ (F : Fr) (O : Av) (ρ ρ1 : En) (σ : St) (H : Hp) (vs : List V) (ds : List D) (Q : St → Hp → Prop), F.w = w → Rel F O ρ σ H → RepL F.w O H ds vs → gTs ms ds ρ = some ρ1 → (∀ σ1, Rel F O ρ1 σ1 H → Out js σ σ1 → Q σ1 H) → g vs σ H Q
def PMG (X : Cx) (w : Wd) (tg : Expr) (m : MG) (js : List Nat) : Prop := ∃ g, PG X tg g ∧ SimG w g m js
def PMGs (X : Cx) (w : Wd) (tg : List Expr) (m : List MG) (js : List Nat) : Prop := ∃ g, PGs X tg g ∧ SimGs w g m js
theorem wipe_get {σ : St} {vs : List Nat} {j : Nat} : (wipe σ vs)[j]? = if j ∈ vs then (σ[j]?).map fun _ => none else σ[j]? := by
  induction vs with
  | nil => simp [wipe]
  | cons v vs ih =>
    unfold wipe
    by_cases e : v = j
    · subst e
      rw [List.getElem?_set_self', ih]
      cases q : σ[v]? <;> simp [q] <;> split <;> simp_all
    · rw [List.getElem?_set_ne e, ih]
      have : (j ∈ v :: vs) ↔ j ∈ vs := by simp [Ne.symm e]
      simp [this]
theorem out_set {σ : St} {v : Option V} (i : Nat) : Out [i] σ (σ.set i v) := fun vs hv => by
  have hi := hv i (by simp)
  apply List.ext_getElem?
  intro j
  rw [wipe_get, wipe_get]
  by_cases e : i = j
  · subst e
    rw [if_pos hi, if_pos hi, List.getElem?_set_self']
    cases σ[i]? <;> rfl
  · rw [List.getElem?_set_ne e]
theorem pmg_name {i : Nat} {x : Str} (hN : X.N.Nodup) (hi : X.N[i]? = some x) (hx : Loc X.env.scope x) (hf : X.fn x = true ∨ X.env.scope.names.lookup x = some .local := by first | exact .inl rfl | exact .inr rfl | assumption) : PMG X w (.Name x pos) (gN i) [i] :=
  ⟨_, pg_name hN hi hx hf, fun F O ρ ρ1 σ H v d Q hw R h e k => k _ (setV_rel R h e) (out_set i)⟩
theorem pmgs_nil : PMGs X w [] [] [] := ⟨_, pgs_nil, fun F O ρ ρ1 σ H vs ds Q hw R h e k => by
  cases ds with
  | nil =>
    simp only [RepL] at h
    cases e
    exact ⟨h, k σ R fun _ _ => rfl⟩
  | cons d ds => cases e⟩
theorem pmgs_cons {g : MG} {gs : List MG} {js ks : List Nat} {es : List Expr} (h1 : PMG X w e g js) (h2 : PMGs X w es gs ks) (hs : (assignEach (e :: es) X.env).map (·.2) = assign e X.env :: (assignEach es X.env).map (·.2) := by rfl) : PMGs X w (e :: es) (g :: gs) (js ++ ks) := by
  obtain ⟨g1, p1, s1⟩ := h1
  obtain ⟨g2, p2, s2⟩ := h2
  refine ⟨_, pgs_cons p1 p2 hs, fun F O ρ ρ1 σ H vs ds Q hw R h ee k => ?_⟩
  cases ds with
  | nil => cases ee
  | cons d ds =>
    simp only [RepL] at h
    obtain ⟨v, vs', rfl, r1, r2⟩ := h
    have ee : (g d ρ).bind (fun ρ1 => gTs gs ds ρ1) = some ρ1 := ee
    cases q : g d ρ with
    | none => rw [q] at ee; cases ee
    | some ρ2 =>
      rw [q] at ee
      exact ⟨v, vs', rfl, s1 F O ρ ρ2 σ H v d _ hw R r1 q fun σ1 R1 o1 => s2 F O ρ2 ρ1 σ1 H vs' ds Q hw R1 r2 ee fun σ2 R2 o2 => k σ2 R2 fun vs hv => (o2 vs fun j hj => hv j (List.mem_append_right _ hj)).trans (o1 vs fun j hj => hv j (List.mem_append_left _ hj))⟩
theorem sq_of_rep {K : PySem.W.Frag} {O : Av} {H : Hp} {a : Addr} {vs : List V} (h : At O H a (.tup vs) ∨ WrT K a vs) : SqT K H a vs := h.imp (fun q => .inl q.2) id
theorem sl_of_rep {K : PySem.W.Frag} {O : Av} {H : Hp} {a : Addr} {vs : List V} (h : At O H a (.lst vs)) : SqL K H a vs := .inl (.inl h.2)
theorem pmg_tup {es : List Expr} {k : _} {gs : List MG} {js : List Nat} (hK : w.K = X.K) (hc : X.calm = true) (h : PMGs X w es gs js) (hn : (assignEach es X.env).length = gs.length := by rfl) (hst : (assignEach es X.env).findIdx? (·.1) = none := by rfl) : PMG X w (.Tuple es k pos) (gT gs) js := by
  obtain ⟨g, p, s⟩ := h
  refine ⟨_, pg_tup hc p hn hst, fun F O ρ ρ1 σ H v d Q hw R h ee kk => ?_⟩
  cases d with
  | tup ds =>
    simp only [Rep] at h
    obtain ⟨a, vs, rfl, h1, h2⟩ := h
    have hlen : ds.length = gs.length := by
      have key : ∀ (gs : List MG) (ds : List D) (ρ ρ1 : En), gTs gs ds ρ = some ρ1 → ds.length = gs.length := by
        intro gs
        induction gs with
        | nil => intro ds ρ ρ1 e; cases ds with
          | nil => rfl
          | cons _ _ => cases e
        | cons g gs ih => intro ds ρ ρ1 e; cases ds with
          | nil => cases e
          | cons d ds =>
            have e : (g d ρ).bind (fun ρ1 => gTs gs ds ρ1) = some ρ1 := e
            cases q : g d ρ with
            | none => rw [q] at e; cases e
            | some ρ2 => rw [q] at e; simp [ih ds ρ2 ρ1 e]
      exact key gs ds ρ ρ1 ee
    refine ⟨a, vs, rfl, ?_, by rw [h2.length]; exact hlen, s F O ρ ρ1 σ H vs ds Q hw R h2 ee kk⟩
    rw [← hK, ← hw]
    exact sq_of_rep h1
  | _ => cases ee
theorem pms_asgG {g : MG} {js : List Nat} {tg : Expr} (he : PM X w W e m) (hg : PMG X w tg g js) (hs : swapsWithSole [tg] e pos.line X.env = pure false := by rfl) (hsw : swappedStores [tg] e X.env = pure none := by rfl)
    (h1 : (assignEach [tg] X.env).map (·.2) = [assign tg X.env] := by rfl) : PMS X w W (.Assign [tg] e pos) (mAsgG g m) := by
  obtain ⟨te, pe, se⟩ := he
  obtain ⟨tgg, pg, sg⟩ := hg
  refine ⟨_, ps_asg pe pg hs hsw h1, fun F O ρ σ H E hw R hh => ?_⟩
  refine se.bindS hw R hh fun x v ρ1 O1 H1 st1 R1 rv h1 => ?_
  obtain ⟨O2, s2, R2, r2, s3⟩ := VlAt.release st1 R1 R.doh rv
  cases q : g x.1 ρ1 with
  | none => rw [q] at h1; exact h1.elim
  | some ρ2 =>
    rw [q] at h1
    exact sg F O2 ρ1 ρ2 σ H1 v x.1 _ hw R2 r2 q fun σ1 R3 _ => h1 O2 σ1 H1 s3 R3
end
end PM

namespace PM
open PySem L2

/-! ### loops -/
def mLoop (g : MG) (body : MS) : List D → MS
  | [], ρ => .ok .nx ρ
  | d :: ds, ρ => match g d ρ with
    | none => .stuck
    | some ρ1 => match body ρ1 with
      | .ok .nx ρ2 => mLoop g body ds ρ2
      | .ok .ct ρ2 => mLoop g body ds ρ2
      | .ok .bk ρ2 => .ok .nx ρ2
      | r => r
theorem loop_turn {w : Wd} {W : WX} {gg : TG} {g : MG} {js : List Nat} {tb : TS} {body : MS} (sg : SimG w gg g js) (sb : SimS w W tb body) {F : Fr} {O0 O : Av} {ρ : En} {σ : St} {H0 H : Hp} {E : Ends} {d : D} {v : V} {ds : List D} {Nx : St → Hp → Prop} (hw : F.w = w)
    (R : Rel F O ρ σ H) (rd : Rep F.w O H d v) (st0 : Step O0 H0 O H) (hh : HoldS F W O0 H0 E (mLoop g body (d :: ds) ρ))
    (hN : ∀ O' ρ' σ' H', Step O0 H0 O' H' → Rel F O' ρ' σ' H' → HoldS F W O0 H0 E (mLoop g body ds ρ') → Nx σ' H') : gg v σ H fun σ2 H2 => tb { E with nx := Nx, ct := Nx, bk := E.nx } σ2 H2 := by
  unfold mLoop at hh
  cases q : g d ρ with
  | none => rw [q] at hh; exact hh.elim
  | some ρ1 =>
    rw [q] at hh
    refine sg F O ρ ρ1 σ H v d _ hw R rd q fun σ1 R1 _ => ?_
    refine sb F O ρ1 σ1 H _ hw R1 ?_
    cases q2 : body ρ1 with
    | stuck => simp only [q2] at hh; exact hh
    | exc x ρ2 =>
      simp only [q2] at hh
      exact HoldS.later st0 (r := .exc x ρ2) hh
    | ok f ρ2 =>
      simp only [q2] at hh
      cases f with
      | nx => exact fun O' σ' H' st R' => hN O' ρ2 σ' H' (st0.trans st) R' hh
      | ct => exact fun O' σ' H' st R' => hN O' ρ2 σ' H' (st0.trans st) R' hh
      | bk => exact fun O' σ' H' st R' => hh O' σ' H' (st0.trans st) R'
      | rt x => exact fun O' σ' H' v st R' rv => hh O' σ' H' v (st0.trans st) R' rv
theorem RepL.at {w : Wd} {O : Av} {H : Hp} : ∀ {ds : List D} {vs : List V} {i : Nat} {v : V}, RepL w O H ds vs → vs[i]? = some v → ∃ d, ds.drop i = d :: ds.drop (i + 1) ∧ Rep w O H d v
  | [], vs, i, v, h, e => by
    simp only [RepL] at h
    rw [h] at e
    simp at e
  | d :: ds, vs, i, v, h, e => by
    simp only [RepL] at h
    obtain ⟨u, us, rfl, h1, h2⟩ := h
    cases i with
    | zero =>
      have z : u = v := by simpa using e
      subst z
      exact ⟨d, rfl, h1⟩
    | succ i =>
      obtain ⟨d', e', h'⟩ := RepL.at (i := i) h2 (by simpa using e)
      exact ⟨d', e', h'⟩
def rgL (lo : Int) : Nat → List D
  | 0 => []
  | n + 1 => .int lo :: rgL (lo + 1) n
theorem rgL_drop (lo : Int) (n i : Nat) (h : i < n) : (rgL lo n).drop i = .int (lo + i) :: (rgL lo n).drop (i + 1) := by
  induction n generalizing lo i with
  | zero => omega
  | succ n ih =>
    cases i with
    | zero => simp [rgL]
    | succ i =>
      have := ih (lo + 1) i (by omega)
      simp only [rgL, List.drop_succ_cons]
      rw [this]
      congr 2
      omega
theorem rgL_length (lo : Int) (n : Nat) : (rgL lo n).length = n := by
  induction n generalizing lo with
  | zero => rfl
  | succ n ih => simp [rgL, ih]
def rng1 : List D → Option (List D)
  | [.int j] => if -(2 ^ 62) ≤ j ∧ j < 2 ^ 62 then some (rgL 0 j.toNat) else none
  | _ => none
section
variable {w : Wd} {W : WX} {X : Cx} {pos pos' p : Pos} {it tg : Expr} {m : ME} {te : TE} {body : List Stmt} {mb : MS} {g : MG} {js : List Nat} {a b : Expr} {mr : MA}
theorem repl1 {O : Av} {H : Hp} {x : D} {vs : List V} (h : RepL w O H [x] vs) : ∃ v, vs = [v] ∧ Rep w O H x v := by
  simp only [RepL] at h
  obtain ⟨v, vs', e, h1, e2⟩ := h
  rw [e2] at e
  exact ⟨v, e, h1⟩
theorem repl2 {O : Av} {H : Hp} {x y : D} {vs : List V} (h : RepL w O H [x, y] vs) : ∃ v u, vs = [v, u] ∧ Rep w O H x v ∧ Rep w O H y u := by
  simp only [RepL] at h
  obtain ⟨v, vs', e, h1, u, us, e2, h2, e3⟩ := h
  rw [e3] at e2
  rw [e2] at e
  exact ⟨v, u, e, h1, h2⟩
theorem rep_int {O : Av} {H : Hp} {b : Int} {v : V} (h : Rep w O H (.int b) v) : v = .int b := by simpa only [Rep] using h
theorem rep_str {O : Av} {H : Hp} {b : Str} {v : V} (h : Rep w O H (.str b) v) : v = .str b := by simpa only [Rep] using h
/-! ### while -/
end
end PM

namespace PM
open PySem L2

section
variable {F : Fr} {O O' : Av} {ρ : En} {σ : St} {H H' : Hp}
theorem Rel.mutG (R : Rel F O ρ σ H) {i : Nat} {s : Sl} {m m' : Mu} {a : Addr} (e : ρ[i]? = some s) (h : s.get = some m) (ea : σ[i]? = some (some (.ref a))) (hk : ∀ b o, b ≠ a → H b = some o → H' b = some o) (st : Step O H O' H') (hO : ∀ b, O b → O' b) (hdm : ∀ b, O' b → H' b ≠ none)
    (h' : MuAt F.w O' H' a m') : Rel F O' (ρ.set i (s.put m')) σ H' := by
  have hmu : s.mu = true := by cases s <;> first | rfl | cases h
  have same : ∀ {c : Addr} {m0 : Mu}, MuAt F.w O H c m0 → c ≠ a → H' c = H c := fun {c m0} q n => by
    cases z : H c with
    | none => exact absurd z q.some
    | some o => exact hk c o n z
  refine ⟨by simp [R.len], fun b q => hO b (R.b0 b q), R.bh, R.ib, hdm, fun b q => st.dom b (R.doh b q), fun b o q n => ?_, fun j t e1 => ?_, fun j k t u e1 e2 m1 m2 q => ?_, R.tab.stepB st hk (R.ntab e h ea)⟩
  · refine hk b o (fun z => ?_) (R.keep b o q n)
    subst z
    have q2 := R.slot i s e
    cases s with
    | non => cases h
    | val d => cases h
    | own m0 =>
      obtain ⟨c, c1, c2, c3, c4⟩ := q2
      rw [ea] at c1
      cases c1
      rw [q] at c3
      cases c3
    | io m0 =>
      obtain ⟨c, c1, c2, c4⟩ := q2
      rw [ea] at c1
      cases c1
      exact n i c2
  · rcases get_set e1 with ⟨a1, a2⟩ | ⟨a1, a2⟩
    · subst a1
      subst a2
      have q2 := R.slot i s e
      cases s with
      | non => cases h
      | val d => cases h
      | own m0 =>
        obtain ⟨c, c1, c2, c3, c4⟩ := q2
        rw [ea] at c1
        cases c1
        exact ⟨a, ea, hO _ c2, c3, h'⟩
      | io m0 =>
        obtain ⟨c, c1, c2, c4⟩ := q2
        rw [ea] at c1
        cases c1
        exact ⟨a, ea, c2, h'⟩
    · have q2 := R.slot j t a2
      cases t with
      | non => trivial
      | val d =>
        obtain ⟨v, c1, c2⟩ := q2
        exact ⟨v, c1, Rep.step st d v c2⟩
      | own m0 =>
        obtain ⟨c, c1, c2, c3, c4⟩ := q2
        refine ⟨c, c1, hO _ c2, c3, c4.step st (same c4 fun z => ?_)⟩
        subst z
        exact a1 (R.dist i j s _ e a2 hmu rfl (ea.trans c1.symm))
      | io m0 =>
        obtain ⟨c, c1, c2, c4⟩ := q2
        refine ⟨c, c1, c2, c4.step st (same c4 fun z => ?_)⟩
        subst z
        exact a1 (R.dist i j s _ e a2 hmu rfl (ea.trans c1.symm))
  · have key : ∀ (j : Nat) (t : Sl), (ρ.set i (s.put m'))[j]? = some t → t.mu = true → ∃ t', ρ[j]? = some t' ∧ t'.mu = true := fun j t e1 m1 => by
      rcases get_set e1 with ⟨a1, a2⟩ | ⟨a1, a2⟩
      · subst a1
        exact ⟨s, e, hmu⟩
      · exact ⟨t, a2, m1⟩
    obtain ⟨t', f1, f2⟩ := key j t e1 m1
    obtain ⟨u', g1, g2⟩ := key k u e2 m2
    exact R.dist j k t' u' f1 g1 f2 g2 q
theorem Apart.put (R : Apart ρ σ a) {i : Nat} {s : Sl} {m' : Mu} (e : ρ[i]? = some s) (h : s.mu = true) : Apart (ρ.set i (s.put m')) σ a := fun j t e1 m1 => by
  rcases get_set e1 with ⟨a1, a2⟩ | ⟨a1, a2⟩
  · subst a1
    exact R i s e h
  · exact R j t a2 m1
end

/-! ### what a def is worth -/
inductive Fs where
  | ret (x : Vl) (m : Option Mu) | exc (x : Xc) (m : Option Mu) | stuck
/-- a def: the list or dict that it is handed to be changed, the first argument (or none); the others -/
abbrev Fn := Option Mu → List D → Fs
def ArgAt (w : Wd) (O : Av) (H : Hp) (om : Option Mu) (ds : List D) (vs : List V) : Prop := match om with
  | none => RepL w O H ds vs
  | some m => ∃ a vs', vs = .ref a :: vs' ∧ O a ∧ MuAt w O H a m ∧ RepL w O H ds vs'
def IoB (om : Option Mu) (vs : List V) : Av := fun a => om.isSome = true ∧ vs.head? = some (.ref a)
def IoAt (w : Wd) (O : Av) (H : Hp) (om : Option Mu) (vs : List V) : Prop := match om with
  | none => True
  | some m => ∃ a, vs.head? = some (.ref a) ∧ MuAt w O H a m
structure Stay (om : Option Mu) (vs : List V) (H H' : Hp) : Prop where
  kept : ∀ a o, ¬ IoB om vs a → H a = some o → H' a = some o
  dom : ∀ a, H a ≠ none → H' a ≠ none
def RetF (w : Wd) (O : Av) (H : Hp) (om' : Option Mu) (vs : List V) (H' : Hp) (v : V) (x : Vl) : Prop := match x.2 with
  | false => Rep w O H' x.1 v ∧ IoAt w O H' om' vs
  | true => ∃ a m, v = .ref a ∧ H a = none ∧ m.is x.1 ∧ MuAt w (ins O a) H' a m ∧ IoAt w (ins O a) H' om' vs
def HoldF (w : Wd) (O : Av) (H : Hp) (om : Option Mu) (vs : List V) (Q : VK) (E : XK) : Fs → Prop
  | .ret x om' => om'.isSome = om.isSome ∧ ∀ H' v, Stay om vs H H' → RetF w O H om' vs H' v x → Q v H'
  | .exc x om' => om'.isSome = om.isSome ∧ ∀ H' cls d, Stay om vs H H' → IoAt w O H' om' vs → XcAt w O H' cls d x → E cls d H'
  | .stuck => False
def spOf (w : Wd) (k : Nat) (f : Fn) : Sp := fun vs H Q E => ∃ (O : Av) (om : Option Mu) (ds : List D), Dm O H ∧ vs.length = k ∧ ArgAt w O H om ds vs ∧ HoldF w O H om vs Q E (f om ds)

/-! ### calls -/
def mCallV (f : Fn) (ma : MA) : ME := fun ρ => (ma ρ).bind fun xs ρ1 => match f none xs with
  | .ret x none => .ok x ρ1
  | _ => .stuck
def muOf (i : Nat) (ρ : En) : Option (Sl × Mu) := (ρ[i]?).bind fun s => s.get.map fun m => (s, m)
def mCallD (f : Fn) (i : Nat) (ma : MA) : ME := fun ρ => match muOf i ρ with
  | none => .stuck
  | some _ => (ma ρ).bind fun xs ρ1 => match muOf i ρ1 with
    | none => .stuck
    | some (s, m) => match f (some m) xs with
      | .ret x (some m') => .ok x (ρ1.set i (s.put m'))
      | _ => .stuck
theorem muOf_some {i : Nat} {ρ : En} {s : Sl} {m : Mu} (h : muOf i ρ = some (s, m)) : ρ[i]? = some s ∧ s.get = some m := by
  unfold muOf at h
  cases e : ρ[i]? with
  | none => rw [e] at h; cases h
  | some t =>
    rw [e] at h
    cases q : t.get with
    | none => rw [show (some t).bind (fun s => s.get.map fun m => (s, m)) = t.get.map fun m => (t, m) from rfl, q] at h; cases h
    | some m' =>
      rw [show (some t).bind (fun s => s.get.map fun m => (s, m)) = t.get.map fun m => (t, m) from rfl, q] at h
      cases h
      exact ⟨rfl, q⟩
theorem mu_of_get {s : Sl} {m : Mu} (h : s.get = some m) : s.mu = true := by cases s <;> first | rfl | cases h
theorem mono_step {O O' : Av} {H : Hp} (h : ∀ a, O' a → O a) : Step O H O' H := ⟨fun a q => .inl (h a q), fun _ _ _ e => e, fun _ e => e⟩
section
variable {w : Wd} {W : WX} {X : Cx} {pos p : Pos} {x : Str} {e : Expr} {es : List Expr} {ta : TA} {ma : MA} {f : Fn} {k : Nat}
theorem sim_callV {E : XK} (ha : SimA w W ta ma) (hn : ∀ (ρ ρ1 : En) (xs : List D), ma ρ = .ok xs ρ1 → xs.length = k) : Sim w W (tCall (spOf w k f) [] E ta) (mCallV f ma) := fun F O ρ σ H Q hw R hh => by
  subst hw
  have hn' : ∀ xs ρ1, ma ρ = .ok xs ρ1 → xs.length = k := fun xs ρ1 e => hn ρ ρ1 xs e
  have key : Hold F W O σ H (RV F σ H) Q ((ma ρ).bind fun xs ρ1 => if xs.length = k then (match f none xs with
  | .ret x none => .ok x ρ1
  | _ => .stuck) else .stuck) := by
    unfold mCallV at hh
    cases q : ma ρ with
    | ok xs ρ1 =>
      rw [q] at hh
      show Hold F W O σ H (RV F σ H) Q (if xs.length = k then _ else _)
      rw [if_pos (hn' xs ρ1 q)]
      exact hh
    | exc x ρ1 => rw [q] at hh; exact hh
    | stuck => rw [q] at hh; exact hh
  refine ha.bind rfl R key fun xs vs ρ1 O1 H1 st1 R1 rs h1 => ?_
  split at h1
  · rename_i hk
    show spOf _ _ _ (vs ++ []) H1 Q E
    rw [List.append_nil]
    refine ⟨O1, none, xs, R1.dom, by rw [rs.length]; exact hk, rs, ?_⟩
    split at h1
    · rename_i z hz
      rw [hz]
      refine ⟨rfl, fun H' v sy rf => ?_⟩
      have g : Grow H1 H' := fun a o e => sy.kept a o (fun q => by cases q.1) e
      obtain ⟨d, b⟩ := z
      cases b with
      | false => exact h1 O1 H' v (st1.trans g.step) (R1.grow g) rf.1
      | true =>
        obtain ⟨a, m, e1, e2, e3, e4, _⟩ := rf
        exact h1 (ins O1 a) H' v (st1.trans (ins_step g e2)) (R1.guard g e2 e4.some) ⟨a, m, e1, st1.none_back e2, .inr rfl, e3, e4, R1.apart e2⟩
    · exact h1.elim
  · exact h1.elim
theorem sim_callD {E : XK} {i : Nat} (ha : SimA w W ta ma) (hn : ∀ (ρ ρ1 : En) (xs : List D), ma ρ = .ok xs ρ1 → xs.length + 1 = k) : Sim w W (tCall (spOf w k f) [] E (tCons (tVar i) ta)) (mCallD f i ma) := fun F O ρ σ H Q hw R hh => by
  subst hw
  unfold mCallD at hh
  cases q0 : muOf i ρ with
  | none => rw [q0] at hh; exact hh.elim
  | some sm =>
    rw [q0] at hh
    obtain ⟨e0, g0⟩ := muOf_some (s := sm.1) (m := sm.2) q0
    obtain ⟨a, ea, oa, _⟩ := R.muAt e0 g0
    refine ⟨.ref a, ea, ?_⟩
    have key : Hold F W O σ H (RV F σ H) Q ((ma ρ).bind fun xs ρ1 => if xs.length + 1 = k then (match muOf i ρ1 with
      | none => .stuck
      | some (s, m) => match f (some m) xs with
        | .ret x (some m') => .ok x (ρ1.set i (s.put m'))
        | _ => .stuck) else .stuck) := by
      cases q : ma ρ with
      | ok xs ρ1 =>
        rw [q] at hh
        show Hold F W O σ H (RV F σ H) Q (if xs.length + 1 = k then _ else _)
        rw [if_pos (hn ρ ρ1 xs q)]
        exact hh
      | exc x ρ1 => rw [q] at hh; exact hh
      | stuck => rw [q] at hh; exact hh
    refine ha.bind rfl R key fun xs vs ρ1 O1 H1 st1 R1 rs h1 => ?_
    split at h1
    · rename_i hk
      split at h1
      · exact h1.elim
      · rename_i s m q1
        obtain ⟨e1, g1⟩ := muOf_some q1
        obtain ⟨a', ea', oa', ma'⟩ := R1.muAt e1 g1
        rw [ea] at ea'
        cases ea'
        show spOf _ _ _ ((.ref a :: vs) ++ []) H1 Q E
        rw [List.append_nil]
        refine ⟨O1, some m, xs, R1.dom, by simp [rs.length, hk], ⟨a, vs, rfl, oa', ma', rs⟩, ?_⟩
        split at h1
        · rename_i z m' hz
          rw [hz]
          refine ⟨rfl, fun H' v sy rf => ?_⟩
          have hk : ∀ b o, b ≠ a → H1 b = some o → H' b = some o := fun b o n e => sy.kept b o (fun q => n (by have := q.2; simp at this; exact this.symm)) e
          obtain ⟨d, b⟩ := z
          cases b with
          | false =>
            obtain ⟨r1, a2, ha2, r2⟩ := rf
            cases (show some (V.ref a) = some (.ref a2) from ha2)
            have st2 : Step O1 H1 O1 H' := ⟨fun _ q => .inl q, fun b o n e => hk b o (fun z => n (by rw [z]; exact oa')) e, sy.dom⟩
            exact h1 O1 H' v (st1.trans st2) (R1.mutG e1 g1 ea hk st2 (fun _ q => q) (fun b q => sy.dom b (R1.dom b q)) r2) r1
          | true =>
            obtain ⟨c, m2, e2, e3, e4, e5, a2, ha2, r2⟩ := rf
            cases (show some (V.ref a) = some (.ref a2) from ha2)
            have st2 : Step O1 H1 (ins O1 c) H' := ⟨fun b q => q.elim .inl fun e => .inr (by rw [e]; exact e3), fun b o n e => hk b o (fun z => n (by rw [z]; exact oa')) e, sy.dom⟩
            refine h1 (ins O1 c) H' v (st1.trans st2) (R1.mutG e1 g1 ea hk st2 (fun _ q => .inl q) (fun b q => q.elim (fun q => sy.dom b (R1.dom b q)) fun z => by rw [z]; exact e5.some) r2) ?_
            exact ⟨c, m2, e2, st1.none_back e3, .inr rfl, e4, e5, (R1.apart e3).put e1 (mu_of_get g1)⟩
        · exact h1.elim
    · exact h1.elim
end
end PM

/-! The layer's promise of a def, for callers under whom no repr is running: repr of a list, a tuple, a dict can be told exactly then. -/
namespace PM
open PySem PySem.Spec PyProof.Rows L2

structure FnG (P : Program) (wo : World) (K : PySem.W.Frag) (mg : Str → Option Value) (base : Heap) (Z : CXT) (k : Nat) (f : Addr) (fd : FuncData) (ps : List Str) (sp : Sp) : Prop where
  len : ∀ vs H Q E, sp vs H Q E → vs.length = ps.length
  run : ∀ (A : Around) (out : List Env) (s : Shared) (H : Hp) (args : Args) (us : List Value) (vs : List V) (Q : VK) (E : XK), A.guards = some [] → Room k A → Env0 P wo K mg base A out s H → BindsTo s fd args (ps.zip us) → Vals vs us → sp vs H Q E →
    codeAny (model P wo) A (.call (.ref f) args) (CR Z out P wo H s Q E) s
section
variable {P : Program} {wo : World} {K : PySem.W.Frag} {mg : Str → Option Value} {base : Heap} {Z : CXT} {k j : Nat} {f : Addr} {fd : FuncData} {ps N : List Str} {sp : Sp}
theorem FnG.mono (F : FnG P wo K mg base Z j f fd ps sp) (h : j ≤ k) : FnG P wo K mg base Z k f fd ps sp := ⟨F.len, fun A out s H args us vs Q E hg hr => F.run A out s H args us vs Q E hg (hr.mono h)⟩
theorem fn_ofG {nm qual : Str} {pr : Arguments} {body : List Stmt} {sco : Scope} {dV kV doc pm cdv ct oc : Value} {an od : Option Addr} {osl : Array (Option Value)}
    (lk : K.lookup f = some ⟨oc, od, .func (PySem.W.fnOf nm qual pr body sco dV kV doc pm an cdv ct), osl⟩) (hcd : PySem.W.codeIn K cdv qual = true) (S : FnScope N ps sco) (len : ∀ vs H Q E, sp vs H Q E → vs.length = ps.length)
    (hbody : ∀ (A : Around) (out : List Env) (s : Shared) (H : Hp) (vs : List V) (Q : VK) (E : XK), A.guards = some [] → Room k (A.deeper (envOfC qual sco s.heap.objs.size f cdv)) → sp vs H Q E →
      ∃ t, PSs (cxOf Z P wo K mg base N qual sco f cdv A out s H E) body t ∧ t { nx := fun _ H' => Q .non H', rt := Q } (L2.start N vs) H) :
    FnG P wo K mg base Z (k + 1) f (PySem.W.fnOf nm qual pr body sco dV kV doc pm an cdv ct) ps sp := by
  refine ⟨len, fun A out s H args us vs Q E hgu hr en hbi rr hsp => ?_⟩
  have hlen := len _ _ _ _ hsp
  have old : ∀ b o, base.get? b = some o → s.heap.get? b = some o := fun b o e => (en.bs b o e).1
  have inK : K.In s.heap := en.mod.kin.keeps old
  have nol : s.heap.NoLimit := en.mod.nolimit.keeps old
  refine codeAny_call_function hr.depth (inK _ _ lk) rfl S.co S.gen rfl (PySem.W.codeRec_of inK hcd) (hbi _ _ _ _ ?_)
  refine wpAny_newFunctionEnv_cells S.kind (fun ⟨n, v⟩ hy => ?_) fun env he s1 x => ?_
  · rcases S.par n (List.of_mem_zip hy).1 with q | q
    · exact Or.inl q
    · exact Or.inr ⟨q, PySem.W.cellsFrom_some _ _ _ (Or.inl q)⟩
  · cases he
    refine ⟨nol.keeps x.toInCall.keep, codeAny_func ?_⟩
    obtain ⟨t, pt, rt⟩ := hbody A out s H vs Q E hgu (hr.deeper _) hsp
    have J0 := inv_start (CX := Z) (cd := cdv) (E := E) S hr.hd en hlen rr x
    refine wpAny_mono (pt.run [] s1 (L2.start N vs) H _ J0 rt) (fun fl s' hs => ?_) fun e s' he => he
    have close : ∀ {τ : L2.St} {H' : Hp} {v : V} {u : Value}, Inv (cxOf Z P wo K mg base N qual sco f cdv A out s H E) [] τ H' s' → RelV v u → Q v H' → CE out P wo H s Q u s' := fun {τ H' v u} J rv q => ⟨v, H', J.os, J.bare, J.base, J.hok, rv, q⟩
    cases fl with
    | ret u =>
      obtain ⟨v, τ, H', J, rv, q⟩ := hs
      exact close J rv q
    | next =>
      obtain ⟨τ, H', J, q⟩ := hs
      exact close (v := V.non) (u := Value.none) J rfl q
    | brk =>
      obtain ⟨_, _, _, q⟩ := hs
      exact q.elim
    | cont =>
      obtain ⟨_, _, _, q⟩ := hs
      exact q.elim
end
section
variable {X : Cx} {Z : CXT} {k : Nat} {f : Addr} {fd : FuncData} {ps : List Str} {sp : Sp} {E : XK} {x : Str} {p pos : Pos} {e : Expr} {es : List Expr} {t : TA}
theorem run_fnG {pins : List (Addr × Obj)} {σ : L2.St} {H : Hp} {s : Shared} {Q : VK} {us : List Value} {vs : List V} (F : FnG X.prog X.w X.K X.mg X.base Z k f fd ps sp) (hgu : X.A.guards = some []) (hr : Room k X.A) (hb : Binds X.K fd ps []) (hx : Passes Z X E)
    (I : Inv X pins σ H s) (r : Vals vs us) (h : sp vs H Q E) : wpAny (model X.prog X.w) X.A (call (.ref f) us) (EP X pins σ Q) X.xe s := by
  have hl : us.length = ps.length := r.length.symm.trans (F.len _ _ _ _ h)
  have bd : BindsTo s fd ⟨us, []⟩ (ps.zip us) := by
    have := hb s us I.kIn (by rw [List.append_nil]; exact hl)
    rw [List.append_nil] at this
    exact this
  refine wpAny_call (codeAny_mono (F.run X.A X.stack s H ⟨us, []⟩ us vs Q E hgu hr I.env0 bd r h) fun res s' hq => ?_)
  rcases res with e | fl
  · exact hx pins σ H s e s' I hq
  · cases fl with
    | ret u => exact I.after hq
    | next => exact hq.elim
    | brk => exact hq.elim
    | cont => exact hq.elim
/-- f(e, ..) -/
theorem pe_callG (F : FnG X.prog X.w X.K X.mg X.base Z k f fd ps sp) (hgu : X.A.guards = some []) (hr : Room k X.A) (hg : Gl X x) (hm : X.mg x = some (.ref f)) (hk : PySem.W.keepIn X.K (.ref f) = true) (hb : Binds X.K fd ps []) (hx : Passes Z X E) (ha : PA X (e :: es) t)
    (hdb : (x == ("__debug__" : Str)) = false := by decide) (he : starEach (e :: es) X.env = (false, eval e X.env) :: starEach es X.env := by rfl) (hpl : (backTo pos (starEach es X.env)).any (·.1) = false := by rfl) :
    PE X (.Call (.Name x p) (e :: es) [] pos) (tCall sp [] E t) := by
  refine ⟨fun pins s σ H Q I hw => wpAny_Call_Name_kw (ld_glob I hg hm ?_ hdb)⟩
  refine PySem.W.callWith_K (h₀ := X.base) I.ok.mod.kin hk (thn (ha.run pos pins s σ H _ I hw) fun us s1 hh => ?_) he hpl
  obtain ⟨vs, H1, I1, r, q⟩ := hh
  have q : sp (vs ++ []) H1 Q E := q
  rw [List.append_nil] at q
  exact ⟨I1.kIn, run_fnG F hgu hr hb hx I1 r q⟩
end
end PM

namespace PM
open PySem PySem.Spec PyProof.Rows L2

/-! ### a def's worth by its body -/
def ioOf (om : Option Mu) (ρ : En) : Option (Option Mu) := match om with
  | none => some none
  | some _ => match (ρ[(0 : Nat)]? : Option Sl) with
    | some (.io m) => some (some m)
    | _ => none
def pre0 : Option Mu → En
  | none => []
  | some m => [.io m]
def en0 (n : Nat) (om : Option Mu) (ds : List D) : En := (pre0 om ++ ds.map Sl.val) ++ List.replicate (n - ((pre0 om).length + ds.length)) .non
def fnSem (n k : Nat) (body : MS) : Fn := fun om ds => if (pre0 om).length + ds.length = k then (match body (en0 n om ds) with
  | .ok (.rt x) ρ => (match ioOf om ρ with
    | some m => .ret x m
    | none => .stuck)
  | .ok .nx ρ => (match ioOf om ρ with
    | some m => .ret (.non, false) m
    | none => .stuck)
  | .exc x ρ => (match ioOf om ρ with
    | some m => .exc x m
    | none => .stuck)
  | _ => .stuck) else .stuck
/-- no error leaves it -/
def noX (f : Fn) : Fn := fun om ds => match f om ds with
  | .ret x m => .ret x m
  | _ => .stuck
theorem RepL.get {w : Wd} {O : Av} {H : Hp} : ∀ {ds : List D} {vs : List V} {i : Nat} {d : D}, RepL w O H ds vs → ds[i]? = some d → ∃ v, vs[i]? = some v ∧ Rep w O H d v
  | [], vs, i, d, h, e => by simp at e
  | d :: ds, vs, i, d', h, e => by
    simp only [RepL] at h
    obtain ⟨u, us, rfl, h1, h2⟩ := h
    cases i with
    | zero =>
      have z : d = d' := by simpa using e
      subst z
      exact ⟨u, rfl, h1⟩
    | succ i =>
      obtain ⟨v, e', h'⟩ := RepL.get (i := i) h2 (by simpa using e)
      exact ⟨v, by simpa using e', h'⟩
theorem start_get {N : List Str} {vs : List V} {i : Nat} {v : V} (e : vs[i]? = some v) : (start N vs)[i]? = some (some v) := by
  unfold L2.start
  rw [List.getElem?_append_left (by rw [List.length_map]; exact lt_of_get e), List.getElem?_map, e]
  rfl
theorem start_len {N : List Str} {vs : List V} (h : vs.length ≤ N.length) : (start N vs).length = N.length := by
  unfold L2.start
  simp
  omega
theorem rep_get {α : Type} {n i : Nat} {x y : α} (h : (List.replicate n x)[i]? = some y) : y = x := by
  rw [List.getElem?_replicate] at h
  split at h
  · cases h; rfl
  · cases h
section
variable {w : Wd} {N : List Str} {vs : List V} {H : Hp} {O : Av} {om : Option Mu} {ds : List D}
theorem pre_len (h : ArgAt w O H om ds vs) : (pre0 om).length + ds.length = vs.length := by
  cases om with
  | none =>
    have z : RepL w O H ds vs := h
    simp [pre0, z.length]
  | some m =>
    obtain ⟨a, vs', rfl, _, _, z⟩ := h
    simp [pre0, z.length]
    omega
theorem pre_get (h : ArgAt w O H om ds vs) {i : Nat} {s : Sl} (e : (pre0 om ++ ds.map Sl.val)[i]? = some s) : ∃ v, vs[i]? = some v ∧ ((∃ d, s = .val d ∧ Rep w O H d v) ∨ ∃ m a, s = .io m ∧ om = some m ∧ i = 0 ∧ v = .ref a ∧ O a ∧ MuAt w O H a m) := by
  cases om with
  | none =>
    have z : RepL w O H ds vs := h
    have e : (ds.map Sl.val)[i]? = some s := by simpa [pre0] using e
    rw [List.getElem?_map] at e
    cases q : ds[i]? with
    | none => rw [q] at e; cases e
    | some d =>
      rw [q] at e
      cases e
      obtain ⟨v, e1, e2⟩ := z.get q
      exact ⟨v, e1, .inl ⟨d, rfl, e2⟩⟩
  | some m =>
    obtain ⟨a, vs', rfl, ha, hm, z⟩ := h
    cases i with
    | zero =>
      have e : Sl.io m = s := by simpa [pre0] using e
      subst e
      exact ⟨.ref a, rfl, .inr ⟨m, a, rfl, rfl, rfl, rfl, ha, hm⟩⟩
    | succ i =>
      have e : (ds.map Sl.val)[i]? = some s := by simpa [pre0] using e
      rw [List.getElem?_map] at e
      cases q : ds[i]? with
      | none => rw [q] at e; cases e
      | some d =>
        rw [q] at e
        cases e
        obtain ⟨v, e1, e2⟩ := z.get q
        exact ⟨v, by simpa using e1, .inl ⟨d, rfl, e2⟩⟩
theorem en0_get (h : ArgAt w O H om ds vs) {n i : Nat} {s : Sl} (e : (en0 n om ds)[i]? = some s) : s = .non ∨ ∃ v, vs[i]? = some v ∧ ((∃ d, s = .val d ∧ Rep w O H d v) ∨ ∃ m a, s = .io m ∧ om = some m ∧ i = 0 ∧ v = .ref a ∧ O a ∧ MuAt w O H a m) := by
  unfold en0 at e
  by_cases hl : i < (pre0 om ++ ds.map Sl.val).length
  · rw [List.getElem?_append_left hl] at e
    exact .inr (pre_get h e)
  · rw [List.getElem?_append_right (by omega)] at e
    exact .inl (rep_get e)
theorem rel_start (hT : w.T = []) (dm : Dm O H) (hn : vs.length ≤ N.length) (h : ArgAt w O H om ds vs) : Rel ⟨w, O, fun i a => i = 0 ∧ IoB om vs a, H⟩ O (en0 N.length om ds) (start N vs) H := by
  refine ⟨?_, fun _ q => q, fun a q => dm a q, fun i a q => ?_, dm, fun _ q => q, fun a o q _ => q, fun i s e => ?_, fun i j s t e1 e2 m1 m2 q => ?_, fun p hp => by rw [hT] at hp; cases hp⟩
  · rw [start_len hn]
    unfold en0
    have := pre_len h
    simp
    omega
  · cases om with
    | none => exact absurd q.2.1 (by simp)
    | some m =>
      obtain ⟨b, vs', rfl, hb, _⟩ := h
      have z := q.2.2
      simp at z
      show O a
      rw [← z]
      exact hb
  · rcases en0_get h e with rfl | ⟨v, e1, ⟨d, rfl, hd⟩ | ⟨m, a, rfl, rfl, rfl, rfl, ha, hm⟩⟩
    · trivial
    · exact ⟨v, start_get e1, hd⟩
    · refine ⟨a, start_get e1, ⟨rfl, rfl, ?_⟩, hm⟩
      cases vs with
      | nil => simp at e1
      | cons b r => simpa using e1
  · have k : ∀ {i : Nat} {s : Sl}, (en0 N.length om ds)[i]? = some s → s.mu = true → i = 0 := fun {i s} e m => by
      rcases en0_get h e with rfl | ⟨v, e1, ⟨d, rfl, hd⟩ | ⟨m, a, rfl, rfl, rfl, rfl, ha, hm⟩⟩
      · cases m
      · cases m
      · rfl
    rw [k e1 m1, k e2 m2]
/-- the contents of what it was handed, at the end -/
theorem io_end {O' : Av} {ρ' : En} {σ' : L2.St} {H' : Hp} {om' : Option Mu} (R : Rel ⟨w, O, fun i a => i = 0 ∧ IoB om vs a, H⟩ O' ρ' σ' H') (e : ioOf om ρ' = some om') : om'.isSome = om.isSome ∧ ∀ O1 : Av, (∀ a, O1 a → O' a) → IoAt w O1 H' om' vs := by
  cases om with
  | none =>
    cases e
    exact ⟨rfl, fun _ _ => trivial⟩
  | some m =>
    unfold ioOf at e
    simp only at e
    split at e
    · rename_i m' q
      cases e
      obtain ⟨a, e1, e2, e3⟩ := R.slot 0 _ q
      exact ⟨rfl, fun O1 h => ⟨a, e2.2.2, e3.step (mono_step h) rfl⟩⟩
    · cases e
theorem stay_end {O' : Av} {ρ' : En} {σ' : L2.St} {H' : Hp} (R : Rel ⟨w, O, fun i a => i = 0 ∧ IoB om vs a, H⟩ O' ρ' σ' H') : Stay om vs H H' := ⟨fun a o n e => R.keep a o e fun i q => n q.2, fun a e => R.doh a e⟩
theorem body_ok (hT : w.T = []) {W : WX} {ts : TS} {m : MS} {k : Nat} {Q : VK} {E : XK} (hs : SimS w W ts m) (hW : ∀ cls d σ H, E cls d H → W cls d σ H) (hk : k ≤ N.length) (h : spOf w k (fnSem N.length k m) vs H Q E) : ts { nx := fun _ H' => Q .non H', rt := Q } (start N vs) H := by
  obtain ⟨O, om, ds, dm, hl, ha, hh⟩ := h
  refine hs _ O (en0 N.length om ds) (start N vs) H _ rfl (rel_start hT dm (by omega) ha) ?_
  unfold fnSem at hh
  rw [if_pos ((pre_len ha).trans hl)] at hh
  cases q : m (en0 N.length om ds) with
  | stuck => rw [q] at hh; exact hh
  | exc x ρ' =>
    rw [q] at hh
    simp only at hh
    intro O' σ' H' cls d st R xa
    cases qi : ioOf om ρ' with
    | none => rw [qi] at hh; exact hh.elim
    | some om' =>
      rw [qi] at hh
      obtain ⟨i1, i2⟩ := io_end R qi
      refine hW _ _ _ _ (hh.2 H' cls d (stay_end R) (i2 O R.b0) ?_)
      cases x with
      | own c fs =>
        cases fs with
        | nil => exact xa
        | cons f fs =>
          obtain ⟨x1, a, vs1, x2, x3, x4, x5⟩ := xa
          exact ⟨x1, a, vs1, x2, fun q => x3 (R.b0 a q), x4, RepL.step (mono_step R.b0) _ _ x5⟩
      | ty n => exact xa
  | ok f ρ' =>
    rw [q] at hh
    cases f with
    | bk => exact hh.elim
    | ct => exact hh.elim
    | nx =>
      simp only at hh
      intro O' σ' H' st R
      cases qi : ioOf om ρ' with
      | none => rw [qi] at hh; exact hh.elim
      | some om' =>
        rw [qi] at hh
        obtain ⟨i1, i2⟩ := io_end R qi
        exact hh.2 H' .non (stay_end R) ⟨by simp only [Rep], i2 O R.b0⟩
    | rt x =>
      simp only at hh
      intro O' σ' H' v st R rv
      cases qi : ioOf om ρ' with
      | none => rw [qi] at hh; exact hh.elim
      | some om' =>
        rw [qi] at hh
        obtain ⟨i1, i2⟩ := io_end R qi
        refine hh.2 H' v (stay_end R) ?_
        obtain ⟨d, b⟩ := x
        cases b with
        | false => exact ⟨Rep.step (mono_step R.b0) _ _ rv, i2 O R.b0⟩
        | true =>
          obtain ⟨a, mm, e1, e2, e3, e4, e5⟩ := rv
          have sub : ∀ b, ins O a b → O' b := fun b q => q.elim (R.b0 b) fun z => by rw [z]; exact e3
          exact ⟨a, mm, e1, e2, e4, e5.step (mono_step sub) rfl, i2 _ sub⟩
end

/-! ### defs -/
def W0 : WX := fun _ _ _ _ => False
/-- a def's promise; g: under callers below whom no repr runs -/
def FnP (g : Bool) (P : Program) (wo : World) (K : PySem.W.Frag) (mg : Str → Option Value) (base : Heap) (j : Nat) (f : Addr) (fd : FuncData) (ps : List Str) (sp : Sp) : Prop := match g with
  | true => FnG P wo K mg base CX0 j f fd ps sp
  | false => FnOk P wo K mg base CX0 j f fd ps sp
/-- where a def of the module stands, and what it is worth -/
def DefOk (g : Bool) (P : Program) (wo : World) (K : PySem.W.Frag) (mg : Str → Option Value) (base : Heap) (w : Wd) (x : Str) (n j : Nat) (f : Fn) : Prop :=
  ∃ a fd ps, ps.length = n ∧ FnP g P wo K mg base j a fd ps (spOf w n f) ∧ mg x = some (.ref a) ∧ PySem.W.keepIn K (.ref a) = true ∧ Binds K fd ps []
section
variable {P : Program} {wo : World} {K : PySem.W.Frag} {mg : Str → Option Value} {base : Heap} {w : Wd}
theorem noX_hold {f : Fn} {vs : List V} {H : Hp} {Q : VK} {E E' : XK} {k : Nat} (h : spOf w k (noX f) vs H Q E) : spOf w k f vs H Q E' := by
  obtain ⟨O, om, ds, dm, hl, ha, hh⟩ := h
  refine ⟨O, om, ds, dm, hl, ha, ?_⟩
  unfold noX at hh
  cases q : f om ds with
  | ret x m => rw [q] at hh; exact hh
  | exc x m => rw [q] at hh; exact hh.elim
  | stuck => rw [q] at hh; exact hh.elim
/-- a def that no error leaves -/
theorem fn_ok0 (hT : w.T = []) (g : Bool) {x qual : Str} {st : Stmt} {f : Addr} {fd : FuncData} {N ps : List Str} {k : Nat} {m : MS} (F : Fun K x qual st f fd) (S : FnScope N ps (defScope st)) (hl : ps.length ≤ N.length)
    (hb : ∀ (cdv : Value) (A : Around) (outer : List Env) (s : Shared) (H : Hp) (E : XK), (g = true → A.guards = some []) → Room k (A.deeper (envOfC qual (defScope st) s.heap.objs.size f cdv)) →
      PMSs (cxOf CX0 P wo K mg base N qual (defScope st) f cdv A outer s H E).nox w W0 (defBody st) m) : FnP g P wo K mg base (k + 1) f fd ps (spOf w ps.length (noX (fnSem N.length ps.length m))) := by
  have len : ∀ vs H Q E, spOf w ps.length (noX (fnSem N.length ps.length m)) vs H Q E → vs.length = ps.length := fun vs H Q E h => by
    obtain ⟨O, om, ds, _, hl, _⟩ := h
    exact hl
  cases g with
  | true =>
    obtain ⟨oc, od, kV, doc, pm, an, cdv, ct, osl, rfl, lk, hcd⟩ := F.ex
    refine fn_ofG lk hcd S len fun A outer s H vs Q E hgu hr h => ?_
    obtain ⟨t, p, sm⟩ := hb cdv A outer s H E (fun _ => hgu) hr
    exact ⟨t, p.nox, body_ok hT (E := fun _ _ _ => False) sm (fun _ _ _ _ z => z) hl (noX_hold h)⟩
  | false =>
    refine F.ok S len fun cdv A outer s H vs Q E hr h => ?_
    obtain ⟨t, p, sm⟩ := hb cdv A outer s H E (fun z => by cases z) hr
    exact ⟨t, p, body_ok hT (E := fun _ _ _ => False) sm (fun _ _ _ _ z => z) hl (noX_hold h)⟩
theorem def_zero (g : Bool) {x : Str} {n : Nat} {f : Fn} {a : Addr} {fd : FuncData} {ps : List Str} (hf : ∀ om ds, f om ds = .stuck) (hl : ps.length = n) (hm : mg x = some (.ref a)) (hk : PySem.W.keepIn K (.ref a) = true) (hb : Binds K fd ps []) : DefOk g P wo K mg base w x n 0 f := by
  have no : ∀ vs H Q E, spOf w n f vs H Q E → False := fun vs H Q E h => by
    obtain ⟨O, om, ds, _, _, _, hh⟩ := h
    rw [hf] at hh
    exact hh
  refine ⟨a, fd, ps, hl, ?_, hm, hk, hb⟩
  cases g with
  | true => exact ⟨fun vs H Q E h => (no _ _ _ _ h).elim, fun A outer s H args us vs Q E hgu hr he hbb hv h => (no _ _ _ _ h).elim⟩
  | false => exact ⟨fun vs H Q E h => (no _ _ _ _ h).elim, fun A outer s H args us vs Q E hr he hbb hv h => (no _ _ _ _ h).elim⟩
theorem DefOk.mono {g : Bool} {x : Str} {n i j : Nat} {f : Fn} (h : DefOk g P wo K mg base w x n i f) (hij : i ≤ j) : DefOk g P wo K mg base w x n j f := by
  obtain ⟨a, fd, ps, h1, h2, h3⟩ := h
  refine ⟨a, fd, ps, h1, ?_, h3⟩
  cases g with
  | true => exact FnG.mono h2 hij
  | false => exact FnOk.mono h2 hij
end
/-! ### calls of defs -/
def Len (ma : MA) (n : Nat) : Prop := ∀ (ρ ρ1 : En) (xs : List D), ma ρ = .ok xs ρ1 → xs.length = n
theorem len_nil : Len mNil 0 := fun ρ ρ1 xs e => by
  cases e
  rfl
theorem len_cons {a : ME} {r : MA} {n : Nat} (h : Len r n) : Len (mCons a r) (n + 1) := fun ρ ρ1 xs e => by
  unfold mCons at e
  cases q : a ρ with
  | stuck => rw [q] at e; cases e
  | exc x ρ2 => rw [q] at e; cases e
  | ok x ρ2 =>
    rw [q] at e
    have e : (r ρ2).bind (fun xs ρ3 => Rs.ok (x.1 :: xs) ρ3) = .ok xs ρ1 := e
    cases q2 : r ρ2 with
    | stuck => rw [q2] at e; cases e
    | exc x ρ2 => rw [q2] at e; cases e
    | ok ys ρ3 =>
      rw [q2] at e
      cases e
      simp [h ρ2 _ ys q2]
section
variable {w : Wd} {W : WX} {X : Cx} {pos p p' : Pos} {x y : Str} {e : Expr} {es : List Expr} {ma : MA} {f : Fn} {n j : Nat}
theorem pm_call {g : Bool} (F : DefOk g X.prog X.w X.K X.mg X.base w x n j f) (hgu : g = true → X.A.guards = some []) (hr : Room j X.A) (hg : Gl X x) (ha : PMA X w W (e :: es) ma) (hn : Len ma n) (hd : (x == ("__debug__" : Str)) = false := by decide) (he : starEach (e :: es) X.env = (false, eval e X.env) :: starEach es X.env := by rfl) (hpl : (backTo pos (starEach es X.env)).any (·.1) = false := by rfl) :
    PM X w W (.Call (.Name x p) (e :: es) [] pos) (mCallV f ma) := by
  obtain ⟨a, fd, ps, hl, F, hm, hk, hb⟩ := F
  obtain ⟨ta, pa, sa⟩ := ha
  cases g with
  | true => exact ⟨_, pe_callG F (hgu rfl) hr hg hm hk hb pass0 pa hd he hpl, sim_callV sa hn⟩
  | false => exact ⟨_, pe_call F hr hg hm hk hb .nil pass0 pa hd he hpl, sim_callV sa hn⟩
/-- f(y, ..), y a list or dict that f may change -/
theorem pm_callD (i : Nat) {g : Bool} (F : DefOk g X.prog X.w X.K X.mg X.base w x (n + 1) j f) (hgu : g = true → X.A.guards = some []) (hr : Room j X.A) (hg : Gl X x) (ha : PMA X w W es ma) (hn : Len ma n) (hN : X.N[i]? = some y := by rfl) (hv : Vis X.env.scope y := by first | exact Or.inl rfl | exact Or.inr (Or.inl rfl) | exact Or.inr (Or.inr rfl)) (hd : (x == ("__debug__" : Str)) = false := by decide)
    (hdy : (y == ("__debug__" : Str)) = false := by decide) (hcd : (y == ("__classdict__" : Str)) = false := by decide) (he : starEach (.Name y p' :: es) X.env = (false, eval (.Name y p') X.env) :: starEach es X.env := by rfl) (hpl : (backTo pos (starEach es X.env)).any (·.1) = false := by rfl) :
    PM X w W (.Call (.Name x p) (.Name y p' :: es) [] pos) (mCallD f i ma) := by
  obtain ⟨a, fd, ps, hl, F, hm, hk, hb⟩ := F
  obtain ⟨ta, pa, sa⟩ := ha
  have sm := sim_callD (w := w) (W := W) (f := f) (E := E0) (i := i) (k := n + 1) sa fun ρ ρ1 xs q => by rw [hn ρ ρ1 xs q]
  cases g with
  | true => exact ⟨_, pe_callG F (hgu rfl) hr hg hm hk hb pass0 (pa_cons (pv i hN hv hdy hcd) pa he) hd he hpl, sm⟩
  | false => exact ⟨_, pe_call F hr hg hm hk hb .nil pass0 (pa_cons (pv i hN hv hdy hcd) pa he) hd he hpl, sm⟩
end
end PM

namespace PM
open PySem L2

def dI (i : Int) : Vl := (.int i, false)
def dB (b : Bool) : Vl := (.bl b, false)
def dS (x : Str) : Vl := (.str x, false)
section
variable {w : Wd} {O : Av} {H : Hp}
theorem Go.int {i : Int} {Q : VK} (g : Go w O H (dI i) Q) : Q (.int i) H := Go.val (d := .int i) g (by simp only [Rep])
theorem Go.bl {i : Bool} {Q : VK} (g : Go w O H (dB i) Q) : Q (.bl i) H := Go.val (d := .bl i) g (by simp only [Rep])
theorem Go.str {i : Str} {Q : VK} (g : Go w O H (dS i) Q) : Q (.str i) H := Go.val (d := .str i) g (by simp only [Rep])
theorem RepL.append : ∀ {xs ys : List D} {vs us : List V}, RepL w O H xs vs → RepL w O H ys us → RepL w O H (xs ++ ys) (vs ++ us)
  | [], ys, vs, us, h, k => by
    simp only [RepL] at h
    subst h
    exact k
  | x :: xs, ys, vs, us, h, k => by
    simp only [RepL] at h
    obtain ⟨v, vs', rfl, h1, h2⟩ := h
    show RepL w O H (x :: (xs ++ ys)) (v :: (vs' ++ us))
    simp only [RepL]
    exact ⟨v, _, rfl, h1, RepL.append h2 k⟩
theorem RepL.nil_iff {xs : List D} {vs : List V} (h : RepL w O H xs vs) : vs = [] ↔ xs = [] := by
  have := h.length
  constructor
  · intro e; subst e; exact List.length_eq_zero_iff.mp this.symm
  · intro e; subst e; exact List.length_eq_zero_iff.mp this
end

/-! ### numbers -/
def int2 (g : Int → Int → Vl) : D → D → Option Vl
  | .int i, .int j => some (g i j)
  | _, _ => none
def int2c (C : Int → Int → Bool) (g : Int → Int → Vl) : D → D → Option Vl
  | .int i, .int j => if C i j = true then some (g i j) else none
  | _, _ => none
theorem int2_some {g : Int → Int → Vl} {x y : D} {z : Vl} (h : int2 g x y = some z) : ∃ i j, x = .int i ∧ y = .int j ∧ z = g i j := by
  unfold int2 at h
  split at h
  · cases h; exact ⟨_, _, rfl, rfl, rfl⟩
  · cases h
theorem int2c_some {C : Int → Int → Bool} {g : Int → Int → Vl} {x y : D} {z : Vl} (h : int2c C g x y = some z) : ∃ i j, x = .int i ∧ y = .int j ∧ C i j = true ∧ z = g i j := by
  unfold int2c at h
  split at h
  · split at h
    · cases h; exact ⟨_, _, rfl, rfl, by assumption, rfl⟩
    · cases h
  · cases h
section
variable {w : Wd}
theorem o2_intI (g : Int → Int → Int) : Op2 w (rI0 fun i j => .int (g i j)) (int2 fun i j => dI (g i j)) := fun O H x y z vx vy Q dm e hx hy k => by
  obtain ⟨i, j, rfl, rfl, rfl⟩ := int2_some e
  exact ⟨i, j, rep_int hx, rep_int hy, k.int⟩
theorem o2_intB (g : Int → Int → Bool) : Op2 w (rI0 fun i j => .bl (g i j)) (int2 fun i j => dB (g i j)) := fun O H x y z vx vy Q dm e hx hy k => by
  obtain ⟨i, j, rfl, rfl, rfl⟩ := int2_some e
  exact ⟨i, j, rep_int hx, rep_int hy, k.bl⟩
theorem o2_intC {C : Int → Int → Prop} {c : Int → Int → Bool} (g : Int → Int → Int) (hc : ∀ i j, c i j = true → C i j) : Op2 w (rI C fun i j => .int (g i j)) (int2c c fun i j => dI (g i j)) := fun O H x y z vx vy Q dm e hx hy k => by
  obtain ⟨i, j, rfl, rfl, h, rfl⟩ := int2c_some e
  exact ⟨i, j, rep_int hx, rep_int hy, hc i j h, k.int⟩
end
def subD : D → D → Option Vl := int2 fun i j => dI (i - j)
def mulC (i j : Int) : Bool := decide (i.natAbs.log2 + j.natAbs.log2 < 1000000)
def mulD : D → D → Option Vl := int2c mulC fun i j => dI (i * j)
def modC (_ j : Int) : Bool := decide (0 < j)
def modD : D → D → Option Vl := int2c modC fun i j => dI (i % j)
def divC (_ j : Int) : Bool := decide (0 < j ∧ j.natAbs.log2 < 9000)
def divD : D → D → Option Vl := int2c divC fun i j => dI (i / j)
def powC (i j : Int) : Bool := decide (0 ≤ j ∧ j ≤ 1000000 ∧ i.natAbs < 2 ^ 64)
def powD : D → D → Option Vl := int2c powC fun i j => dI (i ^ j.toNat)
def ltI : D → D → Option Vl := int2 fun i j => dB (decide (i < j))
def leI : D → D → Option Vl := int2 fun i j => dB (decide (i ≤ j))
def gtI : D → D → Option Vl := int2 fun i j => dB (decide (j < i))
section
variable {w : Wd} {W : WX} {X : Cx} {pos : Pos} {a b : Expr} {ma mb : ME}
theorem pm_sub (ha : PM X w W a ma) (hb : PM X w W b mb) : PM X w W (.BinOp a .Sub b pos) (mOp2 subD ma mb) := pm_bin op_sub (o2_intI fun i j => i - j) ha hb
theorem pm_mul (ha : PM X w W a ma) (hb : PM X w W b mb) : PM X w W (.BinOp a .Mult b pos) (mOp2 mulD ma mb) := pm_bin op_mulW (o2_intC (c := mulC) (fun i j => i * j) fun i j h => by unfold mulC at h; unfold CMulW; exact of_decide_eq_true h) ha hb
theorem pm_mod (ha : PM X w W a ma) (hb : PM X w W b mb) : PM X w W (.BinOp a .Mod b pos) (mOp2 modD ma mb) := pm_bin op_mod (o2_intC (c := modC) (fun i j => i % j) fun i j h => by unfold modC at h; exact of_decide_eq_true h) ha hb
theorem pm_div (ha : PM X w W a ma) (hb : PM X w W b mb) : PM X w W (.BinOp a .FloorDiv b pos) (mOp2 divD ma mb) := pm_bin op_fdivW (o2_intC (c := divC) (fun i j => i / j) fun i j h => by unfold divC at h; unfold CDivW; exact of_decide_eq_true h) ha hb
theorem pm_pow (ha : PM X w W a ma) (hb : PM X w W b mb) : PM X w W (.BinOp a .Pow b pos) (mOp2 powD ma mb) := pm_bin op_pow (o2_intC (c := powC) (fun i j => i ^ j.toNat) fun i j h => by unfold powC at h; unfold CPow; exact of_decide_eq_true h) ha hb
theorem pm_lt (ha : PM X w W a ma) (hb : PM X w W b mb) : PM X w W (.Compare a [.Lt] [b] pos) (mOp2 ltI ma mb) := pm_cmp op_lt (o2_intB fun i j => decide (i < j)) ha hb (nomark _)
theorem pm_le (ha : PM X w W a ma) (hb : PM X w W b mb) : PM X w W (.Compare a [.LtE] [b] pos) (mOp2 leI ma mb) := pm_cmp op_le (o2_intB fun i j => decide (i ≤ j)) ha hb (nomark _)
theorem pmt_lt (ha : PM X w W a ma) (hb : PM X w W b mb) : PMT X w W (.Compare a [.Lt] [b] pos) (mTest (mOp2 ltI ma mb)) := pmt_cmp op_lt (o2_intB fun i j => decide (i < j)) ha hb (nomark _)
theorem pmt_gt (ha : PM X w W a ma) (hb : PM X w W b mb) : PMT X w W (.Compare a [.Gt] [b] pos) (mTest (mOp2 gtI ma mb)) := pmt_cmp op_gt (o2_intB fun i j => decide (j < i)) ha hb (nomark _)
end

/-! ### + -/
def addD : D → D → Option Vl
  | .int i, .int j => some (dI (i + j))
  | .str a, .str b => if a.length + b.length ≤ sizeLine then some (dS (a ++ b)) else none
  | .tup a, .tup b => if a.length + b.length ≤ sizeLine then some (.tup (a ++ b), false) else none
  | .lst a, .lst b => if a.length + b.length ≤ sizeLine then some (.lst (a ++ b), true) else none
  | _, _ => none
def rAddA (K : PySem.W.Frag) : R2 := fun x y H Q => (rI0 (fun i j => .int (i + j))) x y H Q ∨ (∃ i j, x = .str i ∧ y = .str j ∧ i.length + j.length ≤ sizeLine ∧ Q (.str (i ++ j)) H) ∨ rCatA K x y H Q ∨ rCat x y H Q
section
variable {w : Wd} {W : WX} {X : Cx} {pos : Pos} {a b : Expr} {ma mb : ME}
theorem op_addA : OpR X (binaryOp .Add) (rAddA X.K) := op_add.or (op_add_str.or (op_catA.or op_cat))
theorem o2_add : Op2 w (rAddA w.K) addD := fun O H x y z vx vy Q dm e hx hy k => by
  unfold addD at e
  split at e
  · cases e
    exact .inl ⟨_, _, rep_int hx, rep_int hy, k.int⟩
  · split at e
    · cases e
      exact .inr (.inl ⟨_, _, rep_str hx, rep_str hy, by assumption, k.str⟩)
    · cases e
  · split at e
    · rename_i hz
      cases e
      simp only [Rep] at hx hy
      obtain ⟨p, vs, rfl, h1, h2⟩ := hx
      obtain ⟨q, us, rfl, h3, h4⟩ := hy
      refine .inr (.inr (.inl ⟨p, q, vs, us, rfl, rfl, sq_of_rep h1, sq_of_rep h3, by rw [h2.length, h4.length]; exact hz, fun z => ?_, fun z1 z => ?_, fun z1 z2 r hr => ?_⟩))
      · have z' := h2.nil_iff.mp z
        subst z'
        exact k.val (by simp only [Rep, List.nil_append]; exact ⟨q, us, rfl, h3, h4⟩)
      · have z' := h4.nil_iff.mp z
        subst z'
        exact k.val (by simp only [Rep, List.append_nil]; exact ⟨p, vs, rfl, h1, h2⟩)
      · exact k.newT dm (h2.append h4) hr
    · cases e
  · split at e
    · rename_i hz
      cases e
      simp only [Rep] at hx hy
      obtain ⟨p, vs, rfl, h1, h2⟩ := hx
      obtain ⟨q, us, rfl, h3, h4⟩ := hy
      exact .inr (.inr (.inr ⟨p, q, vs, us, rfl, rfl, h1.2, h3.2, by rw [h2.length, h4.length]; exact hz, fun r hr => k.newL (h2.append h4) hr⟩))
    · cases e
  · cases e
theorem pm_add (hK : w.K = X.K) (ha : PM X w W a ma) (hb : PM X w W b mb) : PM X w W (.BinOp a .Add b pos) (mOp2 addD ma mb) := pm_bin op_addA (hK ▸ o2_add) ha hb
end

/-! ### ==, != of data; repr -/
mutual
def toPy : D → Option PyData
  | .non => some .none
  | .bl b => some (.bool b)
  | .int i => some (.int i)
  | .str x => some (.str x)
  | .tup ds => (toPyL ds).map .tuple
  | .lst ds => (toPyL ds).map .list
  | .scr ds => (toPyL ds).map .list
  | .dct _ _ => none
  | .obj _ _ => none
  | .cls _ => none
  | .exn _ _ _ => none
  | .set _ => none
  | .dkf _ _ => none
  | .dkt _ _ => none
  | .rcd _ _ _ => none
  | .lam _ => none
def toPyL : List D → Option (List PyData)
  | [] => some []
  | d :: ds => (toPy d).bind fun p => (toPyL ds).map fun ps => p :: ps
end
section
variable {w : Wd} {O : Av} {H : Hp}
mutual
theorem dp_of : ∀ (d : D) (v : V) (p : PyData), Rep w O H d v → toPy d = some p → Dp w.K H v p
  | .non, v, p, h, e => by
    simp only [Rep] at h
    simp only [toPy] at e
    cases e; subst h; exact .non
  | .bl b, v, p, h, e => by
    simp only [Rep] at h
    simp only [toPy] at e
    cases e; subst h; exact .bl b
  | .int b, v, p, h, e => by
    simp only [Rep] at h
    simp only [toPy] at e
    cases e; subst h; exact .int b
  | .str b, v, p, h, e => by
    simp only [Rep] at h
    simp only [toPy] at e
    cases e; subst h; exact .str b
  | .tup ds, v, p, h, e => by
    simp only [Rep] at h
    simp only [toPy] at e
    obtain ⟨a, vs, rfl, h1, h2⟩ := h
    cases q : toPyL ds with
    | none => rw [q] at e; cases e
    | some ps =>
      rw [q] at e
      cases e
      exact .tup (sq_of_rep h1) (dpl_of ds vs ps h2 q)
  | .lst ds, v, p, h, e => by
    simp only [Rep] at h
    simp only [toPy] at e
    obtain ⟨a, vs, rfl, h1, h2⟩ := h
    cases q : toPyL ds with
    | none => rw [q] at e; cases e
    | some ps =>
      rw [q] at e
      cases e
      exact .lst (sl_of_rep h1) (dpl_of ds vs ps h2 q)
  | .scr ds, v, p, h, e => by
    simp only [Rep] at h
    simp only [toPy] at e
    obtain ⟨a, vs, rfl, h1, h2⟩ := h
    cases q : toPyL ds with
    | none => rw [q] at e; cases e
    | some ps =>
      rw [q] at e
      cases e
      exact .lst (h1.imp (fun ⟨o, z⟩ => .inr ⟨o, z.2⟩) id) (dpl_of ds vs ps h2 q)
  | .exn _ _ _, v, p, h, e => by simp only [toPy] at e; cases e
  | .set _, v, p, h, e => by simp only [toPy] at e; cases e
  | .dkf _ _, v, p, h, e => by simp only [toPy] at e; cases e
  | .dct _ _, v, p, h, e => by simp only [toPy] at e; cases e
  | .dkt _ _, v, p, h, e => by simp only [toPy] at e; cases e
  | .rcd _ _ _, v, p, h, e => by simp only [toPy] at e; cases e
  | .lam _, v, p, h, e => by simp only [toPy] at e; cases e
  | .obj _ _, v, p, h, e => by simp only [toPy] at e; cases e
  | .cls _, v, p, h, e => by simp only [toPy] at e; cases e
theorem dpl_of : ∀ (ds : List D) (vs : List V) (ps : List PyData), RepL w O H ds vs → toPyL ds = some ps → DpAll w.K H vs ps
  | [], vs, ps, h, e => by
    simp only [RepL] at h
    simp only [toPyL] at e
    cases e; subst h; exact .nil
  | d :: ds, vs, ps, h, e => by
    simp only [RepL] at h
    simp only [toPyL] at e
    obtain ⟨v, vs', rfl, h1, h2⟩ := h
    cases q : toPy d with
    | none => rw [q] at e; cases e
    | some p =>
      rw [q] at e
      cases q2 : toPyL ds with
      | none => rw [q2] at e; cases e
      | some ps' =>
        rw [q2] at e
        cases e
        exact .cons (dp_of d v p h1 q) (dpl_of ds vs' ps' h2 q2)
end
end
def pyOk (x : D) : Option PyData := (toPy x).bind fun p => if SeqAt.shaped p = true then some p else none
theorem pyOk_some {x : D} {p : PyData} (h : pyOk x = some p) : toPy x = some p ∧ SeqAt.shaped p = true := by
  unfold pyOk at h
  cases q : toPy x with
  | none => rw [q] at h; cases h
  | some p' =>
    rw [q] at h
    have h : (if SeqAt.shaped p' = true then some p' else none) = some p := h
    split at h
    · cases h; exact ⟨rfl, by assumption⟩
    · cases h
def eqD (x y : D) : Option Vl := (pyOk x).bind fun p => (pyOk y).map fun q => dB (PyData.eqv p q)
def neD (x y : D) : Option Vl := (pyOk x).bind fun p => (pyOk y).map fun q => dB (!PyData.eqv p q)
section
variable {w : Wd} {W : WX} {X : Cx} {pos : Pos} {a b : Expr} {ma mb : ME}
theorem o2_eqD : Op2 w (rEqD w.K) eqD := fun O H x y z vx vy Q dm e hx hy k => by
  unfold eqD at e
  cases q1 : pyOk x with
  | none => rw [q1] at e; cases e
  | some p =>
    rw [q1] at e
    cases q2 : pyOk y with
    | none => rw [q2] at e; cases e
    | some q =>
      rw [q2] at e
      cases e
      obtain ⟨a1, a2⟩ := pyOk_some q1
      obtain ⟨b1, b2⟩ := pyOk_some q2
      exact ⟨p, q, dp_of x vx p hx a1, dp_of y vy q hy b1, a2, b2, k.bl⟩
theorem o2_neD : Op2 w (rNeD w.K) neD := fun O H x y z vx vy Q dm e hx hy k => by
  unfold neD at e
  cases q1 : pyOk x with
  | none => rw [q1] at e; cases e
  | some p =>
    rw [q1] at e
    cases q2 : pyOk y with
    | none => rw [q2] at e; cases e
    | some q =>
      rw [q2] at e
      cases e
      obtain ⟨a1, a2⟩ := pyOk_some q1
      obtain ⟨b1, b2⟩ := pyOk_some q2
      exact ⟨p, q, dp_of x vx p hx a1, dp_of y vy q hy b1, a2, b2, k.bl⟩
theorem pm_eq {k : Nat} (hK : w.K = X.K) (hr : Room k X.A) (ha : PM X w W a ma) (hb : PM X w W b mb) : PM X w W (.Compare a [.Eq] [b] pos) (mOp2 eqD ma mb) := pm_cmp (op_eqD hr.units) (hK ▸ o2_eqD) ha hb (nomark _)
theorem pmt_eq {k : Nat} (hK : w.K = X.K) (hr : Room k X.A) (ha : PM X w W a ma) (hb : PM X w W b mb) : PMT X w W (.Compare a [.Eq] [b] pos) (mTest (mOp2 eqD ma mb)) := pmt_cmp (op_eqD hr.units) (hK ▸ o2_eqD) ha hb (nomark _)
theorem pmt_ne {k : Nat} (hK : w.K = X.K) (hr : Room k X.A) (ha : PM X w W a ma) (hb : PM X w W b mb) : PMT X w W (.Compare a [.NotEq] [b] pos) (mTest (mOp2 neD ma mb)) := pmt_cmp (op_neD hr.units) (hK ▸ o2_neD) ha hb (nomark _)
end
def one1 (f : D → Option Vl) : List D → Option Vl
  | [x] => f x
  | _ => none
theorem one1_some {f : D → Option Vl} {xs : List D} {z : Vl} (h : one1 f xs = some z) : ∃ x, xs = [x] ∧ f x = some z := by
  unfold one1 at h
  split at h
  · exact ⟨_, rfl, h⟩
  · cases h
def two1 (f : D → D → Option Vl) : List D → Option Vl
  | [x, y] => f x y
  | _ => none
theorem two1_some {f : D → D → Option Vl} {xs : List D} {z : Vl} (h : two1 f xs = some z) : ∃ x y, xs = [x, y] ∧ f x y = some z := by
  unfold two1 at h
  split at h
  · exact ⟨_, _, rfl, h⟩
  · cases h
section
variable {w : Wd} {W : WX} {X : Cx} {pos p : Pos} {a b : Expr} {ma mb : ME} {mr : MA} {e : Expr} {es : List Expr}
/-! ### len, int, abs, max, min, tuple, list -/
def lenD : D → Option Vl
  | .str x => if x.length ≤ sizeLine then some (dI x.length) else none
  | .lst ds => some (dI ds.length)
  | .tup ds => some (dI ds.length)
  | .scr ds => some (dI ds.length)
  | _ => none
theorem oN_len : OpN w (fun xs H Q => ∃ x n, xs = [x] ∧ LenV w.K x H n ∧ Q (.int n) H) (one1 lenD) := fun O H xs z vs Q dm e rs k => by
  have ez := e
  clear e
  obtain ⟨x, rfl, e⟩ := one1_some ez
  clear ez
  obtain ⟨v, rfl, hv⟩ := repl1 rs
  unfold lenD at e
  split at e
  · split at e
    · cases e
      rw [rep_str hv]
      exact ⟨_, _, rfl, ⟨by assumption, rfl⟩, k.int⟩
    · cases e
  · cases e
    simp only [Rep] at hv
    obtain ⟨a, vs, rfl, h1, h2⟩ := hv
    exact ⟨_, vs.length, rfl, .inl ⟨vs, sl_of_rep h1, rfl⟩, by rw [h2.length]; exact k.int⟩
  · cases e
    simp only [Rep] at hv
    obtain ⟨a, vs, rfl, h1, h2⟩ := hv
    exact ⟨_, vs.length, rfl, .inr ⟨vs, sq_of_rep h1, rfl⟩, by rw [h2.length]; exact k.int⟩
  · cases e
    simp only [Rep] at hv
    obtain ⟨a, vs, rfl, h1, h2⟩ := hv
    exact ⟨_, vs.length, rfl, .inl ⟨vs, h1.imp (fun ⟨o, z⟩ => .inr ⟨o, z.2⟩) id, rfl⟩, by rw [h2.length]; exact k.int⟩
  · cases e
theorem pm_len (hK : w.K = X.K) (hg : Gl X "len") (hm : X.mg "len" = none) (ha : PMA X w W [e] mr) (he : starEach [e] X.env = (false, eval e X.env) :: starEach [] X.env := by rfl) : PM X w W (.Call (.Name "len" p) [e] [] pos) (mCall (one1 lenD) mr) :=
  pm_callB call_len (hK ▸ oN_len) hg hm PySem.boot_len ha (by decide) (by decide) he
def intD : D → Option Vl
  | .int i => some (dI i)
  | .bl b => some (dI (if b then 1 else 0))
  | _ => none
theorem pm_int1 (hg : Gl X "int") (hm : X.mg "int" = none) (ha : PMA X w W [e] mr) (he : starEach [e] X.env = (false, eval e X.env) :: starEach [] X.env := by rfl) : PM X w W (.Call (.Name "int" p) [e] [] pos) (mCall (one1 intD) mr) :=
  pm_callTy call_int1 (fun O H xs z vs Q dm e rs k => by
    obtain ⟨x, rfl, ez⟩ := one1_some e
    clear e
    obtain ⟨v, rfl, hv⟩ := repl1 rs
    unfold intD at ez
    split at ez
    · cases ez
      rw [rep_int hv]
      exact .inl ⟨_, rfl, k.int⟩
    · cases ez
      rw [rep_bl hv]
      exact .inr ⟨_, rfl, k.int⟩
    · cases ez) hg hm (by decide +kernel) ha (by decide) (by decide) he
def absD : D → Option Vl
  | .int i => some (dI (if i < 0 then -i else i))
  | _ => none
theorem pm_abs (hg : Gl X "abs") (hm : X.mg "abs" = none) (ha : PMA X w W [e] mr) (he : starEach [e] X.env = (false, eval e X.env) :: starEach [] X.env := by rfl) : PM X w W (.Call (.Name "abs" p) [e] [] pos) (mCall (one1 absD) mr) :=
  pm_callB call_abs (fun O H xs z vs Q dm e rs k => by
    obtain ⟨x, rfl, ez⟩ := one1_some e
    clear e
    obtain ⟨v, rfl, hv⟩ := repl1 rs
    unfold absD at ez
    split at ez
    · cases ez
      rw [rep_int hv]
      exact ⟨_, rfl, k.int⟩
    · cases ez) hg hm (by decide +kernel) ha (by decide) (by decide) he
def maxD : D → D → Option Vl := int2 fun i j => dI (if j > i then j else i)
def minD : D → D → Option Vl := int2 fun i j => dI (if j < i then j else i)
theorem pm_max (hc : X.calm = true) (hg : Gl X "max") (hm : X.mg "max" = none) (ha : PMA X w W [a, b] mr) (he : starEach [a, b] X.env = (false, eval a X.env) :: starEach [b] X.env := by rfl) (hpl : (backTo pos (starEach [b] X.env)).any (·.1) = false := by rfl) : PM X w W (.Call (.Name "max" p) [a, b] [] pos) (mCall (two1 maxD) mr) :=
  pm_callB (call_max2 hc) (fun O H xs z vs Q dm e rs k => by
    obtain ⟨x, y, rfl, e⟩ := two1_some e
    obtain ⟨v, u, rfl, hv, hu⟩ := repl2 rs
    obtain ⟨i, j, rfl, rfl, rfl⟩ := int2_some e
    rw [rep_int hv, rep_int hu]
    exact ⟨i, j, rfl, k.int⟩) hg hm (by decide +kernel) ha (by decide) (by decide) he hpl
theorem pm_min (hc : X.calm = true) (hg : Gl X "min") (hm : X.mg "min" = none) (ha : PMA X w W [a, b] mr) (he : starEach [a, b] X.env = (false, eval a X.env) :: starEach [b] X.env := by rfl) (hpl : (backTo pos (starEach [b] X.env)).any (·.1) = false := by rfl) : PM X w W (.Call (.Name "min" p) [a, b] [] pos) (mCall (two1 minD) mr) :=
  pm_callB (call_min2 hc) (fun O H xs z vs Q dm e rs k => by
    obtain ⟨x, y, rfl, e⟩ := two1_some e
    obtain ⟨v, u, rfl, hv, hu⟩ := repl2 rs
    obtain ⟨i, j, rfl, rfl, rfl⟩ := int2_some e
    rw [rep_int hv, rep_int hu]
    exact ⟨i, j, rfl, k.int⟩) hg hm (by decide +kernel) ha (by decide) (by decide) he hpl
def tupD : D → Option Vl
  | .lst ds => some (.tup ds, false)
  | .tup ds => some (.tup ds, false)
  | _ => none
def lstD : D → Option Vl
  | .lst ds => some (.lst ds, true)
  | .tup ds => some (.lst ds, true)
  | _ => none
theorem pm_list (hK : w.K = X.K) (hg : Gl X "list") (hm : X.mg "list" = none) (ha : PMA X w W [e] mr) (he : starEach [e] X.env = (false, eval e X.env) :: starEach [] X.env := by rfl) : PM X w W (.Call (.Name "list" p) [e] [] pos) (mCall (one1 lstD) mr) :=
  pm_callTy call_list_of (fun O H xs z vs Q dm e rs k => by
    obtain ⟨x, rfl, ez⟩ := one1_some e
    clear e
    obtain ⟨v, rfl, hv⟩ := repl1 rs
    unfold lstD at ez
    split at ez
    · cases ez
      simp only [Rep] at hv
      obtain ⟨a, vs, rfl, h1, h2⟩ := hv
      exact ⟨a, vs, rfl, .inl (hK ▸ sl_of_rep h1), fun l hl => k.newL h2 hl⟩
    · cases ez
      simp only [Rep] at hv
      obtain ⟨a, vs, rfl, h1, h2⟩ := hv
      exact ⟨a, vs, rfl, .inr (hK ▸ sq_of_rep h1), fun l hl => k.newL h2 hl⟩
    · cases ez) hg hm (by decide +kernel) ha (by decide) (by decide) he

/-! ### x[i] -/
def ixD : D → D → Option Vl
  | .lst ds, .int i => (atI ds i).map fun d => (d, false)
  | .tup ds, .int i => (atI ds i).map fun d => (d, false)
  | .scr ds, .int i => (atI ds i).map fun d => (d, false)
  | .str x, .int i => if x.length ≤ sizeLine then (atI x.cps.toList i).map fun c => dS ⟨#[c]⟩ else none
  | _, _ => none
theorem atI_rep {O : Av} {H : Hp} {ds : List D} {vs : List V} {i : Int} {d : D} (h : RepL w O H ds vs) (e : atI ds i = some d) : ∃ v, atI vs i = some v ∧ Rep w O H d v := by
  unfold atI at e ⊢
  rw [h.length]
  cases q : ixN ds.length i with
  | none => rw [q] at e; cases e
  | some j =>
    rw [q] at e
    have e : ds[j]? = some d := e
    obtain ⟨v, e1, e2⟩ := h.get e
    exact ⟨v, e1, e2⟩
theorem o2_ix : Op2 w (rIx w.K) ixD := fun O H x y z vx vy Q dm e hx hy k => by
  unfold ixD at e
  split at e
  · rename_i ds i
    rw [rep_int hy]
    cases q : atI ds i with
    | none => rw [q] at e; cases e
    | some d =>
      rw [q] at e
      cases e
      simp only [Rep] at hx
      obtain ⟨a, vs, rfl, h1, h2⟩ := hx
      obtain ⟨v, e1, e2⟩ := atI_rep h2 q
      exact .inl ⟨a, vs, i, v, rfl, rfl, sl_of_rep h1, e1, k.val e2⟩
  · rename_i ds i
    rw [rep_int hy]
    cases q : atI ds i with
    | none => rw [q] at e; cases e
    | some d =>
      rw [q] at e
      cases e
      simp only [Rep] at hx
      obtain ⟨a, vs, rfl, h1, h2⟩ := hx
      obtain ⟨v, e1, e2⟩ := atI_rep h2 q
      exact .inr (.inl ⟨a, vs, i, v, rfl, rfl, sq_of_rep h1, e1, k.val e2⟩)
  · rename_i ds i
    rw [rep_int hy]
    cases q : atI ds i with
    | none => rw [q] at e; cases e
    | some d =>
      rw [q] at e
      cases e
      simp only [Rep] at hx
      obtain ⟨a, vs, rfl, h1, h2⟩ := hx
      obtain ⟨v, e1, e2⟩ := atI_rep h2 q
      exact .inl ⟨a, vs, i, v, rfl, rfl, h1.imp (fun ⟨o, z⟩ => .inr ⟨o, z.2⟩) id, e1, k.val e2⟩
  · rename_i x i
    split at e
    · rename_i hz
      rw [rep_int hy, rep_str hx]
      cases q : atI x.cps.toList i with
      | none => rw [q] at e; cases e
      | some c =>
        rw [q] at e
        cases e
        exact .inr (.inr ⟨x, i, c, rfl, rfl, hz, q, k.str⟩)
    · cases e
  · cases e
theorem pm_item (hK : w.K = X.K) (ha : PM X w W a ma) (hb : PM X w W b mb) (hs : PlainIx b := by exact fun _ _ => rfl) : PM X w W (.Subscript a b pos) (mOp2 ixD ma mb) := pm_ix ix_seq (hK ▸ o2_ix) ha hb hs
end
end PM

namespace PM
open PySem L2

/-! ### one's own lists: read, changed -/
/-- an expression behind a slot that holds a list of one's own -/
def mBehind {α : Type} (i : Nat) (m : En → Rs α) (f : α → Sl → Mu → En → Rs Vl) : ME := fun ρ => match muOf i ρ with
  | some (_, .lst _) => (m ρ).bind fun y ρ1 => (match muOf i ρ1 with
    | none => .stuck
    | some (s, m) => f y s m ρ1)
  | _ => .stuck
theorem behind_hold {α : Type} {i : Nat} {m : En → Rs α} {f : α → Sl → Mu → En → Rs Vl} {F : Fr} {W : WX} {O : Av} {σ : St} {H : Hp} {Q : VK} {ρ : En} (R : Rel F O ρ σ H) (h : Hold F W O σ H (RV F σ H) Q (mBehind i m f ρ)) :
    ∃ a vs, σ[i]? = some (some (.ref a)) ∧ H a = some (.lst vs) ∧ Hold F W O σ H (RV F σ H) Q ((m ρ).bind fun y ρ1 => (match muOf i ρ1 with
    | none => .stuck
    | some (s, m) => f y s m ρ1)) := by
  unfold mBehind at h
  split at h
  · rename_i s ds q
    obtain ⟨e0, g0⟩ := muOf_some q
    obtain ⟨a, ea, oa, vs, hv, _⟩ := R.muAt e0 g0
    exact ⟨a, vs, ea, hv, h⟩
  · exact h.elim
def mItemO (i : Nat) (mb : ME) : ME := mBehind i mb fun y s m ρ1 => match m, y.1 with
  | .lst ds, .int k => lift ((atI ds k).map fun d => (d, false)) ρ1
  | _, _ => .stuck
def mAppend (i : Nat) (mr : MA) : ME := mBehind i mr fun ys s m ρ1 => match m, ys with
  | .lst ds, [y] => if ds.length < sizeLine then .ok (.non, false) (ρ1.set i (s.put (.lst (ds ++ [y])))) else .stuck
  | _, _ => .stuck
def mPopAt (i : Nat) (mr : MA) : ME := mBehind i mr fun ys s m ρ1 => match m, ys with
  | .lst ds, [.int k] => if 0 ≤ k ∧ k < 2 ^ 63 then (match ds[k.toNat]? with
    | some d => .ok (d, false) (ρ1.set i (s.put (.lst (ds.eraseIdx k.toNat))))
    | none => .stuck) else .stuck
  | _, _ => .stuck
def mLenO (i : Nat) : ME := mBehind i mNil fun _ s m ρ1 => match m with
  | .lst ds => .ok (dI ds.length) ρ1
  | _ => .stuck
def mSetItem (i : Nat) (mk mv : ME) : MS := fun ρ => (mv ρ).bind fun y ρ1 => match muOf i ρ1 with
  | none => .stuck
  | some _ => (mk ρ1).bind fun k ρ2 => match muOf i ρ2, k.1 with
    | some (s, .lst ds), .int j => (match ixN ds.length j with
      | some n => .ok .nx (ρ2.set i (s.put (.lst (ds.set n y.1))))
      | none => .stuck)
    | _, _ => .stuck
section
variable {w : Wd} {W : WX} {F : Fr} {O : Av} {ρ : En} {σ : St} {H : Hp}
theorem mut_lst {i : Nat} {s : Sl} {m : Mu} {a : Addr} {vs : List V} {ds : List D} (R : Rel F O ρ σ H) (e : ρ[i]? = some s) (g : s.get = some m) (ea : σ[i]? = some (some (.ref a))) (ho : O a) (h : RepL F.w O H ds vs) :
    Rel F O (ρ.set i (s.put (.lst ds))) σ (upd H a (.lst vs)) ∧ Step O H O (upd H a (.lst vs)) :=
  ⟨R.mut e g ea ho ⟨vs, upd_same, RepL.step (mut_step ho) ds vs h⟩, mut_step ho⟩
theorem RepL.set : ∀ {ds : List D} {vs : List V} {n : Nat} {d : D} {v : V}, RepL w O H ds vs → Rep w O H d v → RepL w O H (ds.set n d) (vs.set n v)
  | [], vs, n, d, v, h, k => by
    simp only [RepL] at h
    subst h
    simp [RepL]
  | x :: ds, vs, n, d, v, h, k => by
    simp only [RepL] at h
    obtain ⟨u, us, rfl, h1, h2⟩ := h
    cases n with
    | zero =>
      simp only [List.set_cons_zero, RepL]
      exact ⟨v, us, rfl, k, h2⟩
    | succ n =>
      simp only [List.set_cons_succ, RepL]
      exact ⟨u, _, rfl, h1, RepL.set h2 k⟩
theorem RepL.erase : ∀ {ds : List D} {vs : List V} {n : Nat}, RepL w O H ds vs → RepL w O H (ds.eraseIdx n) (vs.eraseIdx n)
  | [], vs, n, h => by
    simp only [RepL] at h
    subst h
    simp [RepL]
  | x :: ds, vs, n, h => by
    simp only [RepL] at h
    obtain ⟨u, us, rfl, h1, h2⟩ := h
    cases n with
    | zero => simpa using h2
    | succ n =>
      simp only [List.eraseIdx_cons_succ, RepL]
      exact ⟨u, _, rfl, h1, RepL.erase h2⟩
end
section
variable {w : Wd} {W : WX} {X : Cx} {pos p apos : Pos} {x : Str} {b e : Expr} {mb : ME} {mr : MA}
theorem pm_itemO (i : Nat) (hK : w.K = X.K) (hb : PM X w W b mb) (hs : PlainIx b := by exact fun _ _ => rfl) (hN : X.N[i]? = some x := by rfl) (hv : Vis X.env.scope x := by first | exact Or.inl rfl | exact Or.inr (Or.inl rfl) | exact Or.inr (Or.inr rfl)) (hd : (x == ("__debug__" : Str)) = false := by decide)
    (hcd : (x == ("__classdict__" : Str)) = false := by decide) : PM X w W (.Subscript (.Name x p) b pos) (mItemO i mb) := by
  obtain ⟨tb, pb, sb⟩ := hb
  refine ⟨_, pe_ix ix_seq (pv i hN hv hd hcd) pb hs, fun F O ρ σ H Q hw R hh => ?_⟩
  subst hw
  obtain ⟨a, vs0, ea, ha, hh⟩ := behind_hold R hh
  refine ⟨.ref a, ea, ?_⟩
  refine sb.bind rfl R hh fun y u ρ1 O1 H1 st1 R1 ry h1 => ?_
  split at h1
  · exact h1.elim
  · rename_i s m q1
    obtain ⟨e1, g1⟩ := muOf_some q1
    obtain ⟨a', ea', oa', ma'⟩ := R1.muAt e1 g1
    rw [ea] at ea'
    cases ea'
    split at h1
    · rename_i ds k ey
      rw [ey] at ry
      rw [rep_int ry]
      obtain ⟨vs, hv, hr⟩ := ma'
      cases q : atI ds k with
      | none => rw [q] at h1; exact h1.elim
      | some d =>
        rw [q] at h1
        obtain ⟨v, e2, e3⟩ := atI_rep hr q
        exact .inl ⟨a, vs, k, v, rfl, rfl, .inl (.inl hv), e2, (Hold.go (z := (d, false)) h1 st1 R1).val e3⟩
    · exact h1.elim
theorem sim_mut {r : V → List V → Hp → VK → Prop} {i : Nat} {ta : TA} {f : List D → Sl → Mu → En → Rs Vl} (sr : SimA w W ta mr)
    (hf : ∀ (F : Fr) (O : Av) (ρ : En) (σ : St) (H : Hp) (a : Addr) (ys : List D) (us : List V) (s : Sl) (m : Mu) (Q : VK), F.w = w → Rel F O ρ σ H → ρ[i]? = some s → s.get = some m → σ[i]? = some (some (.ref a)) → O a → MuAt F.w O H a m → RepL F.w O H ys us → Hold F W O σ H (RV F σ H) Q (f ys s m ρ) → r (.ref a) us H Q) :
    Sim w W (tBM w.K "list" r (tVar i) ta) (mBehind i mr f) := fun F O ρ σ H Q hw R hh => by
  subst hw
  obtain ⟨a, vs0, ea, ha, hh⟩ := behind_hold R hh
  refine ⟨.ref a, ea, .inl ⟨rfl, vs0, .inl (.inl ha)⟩, ?_⟩
  refine sr.bind rfl R hh fun ys us ρ1 O1 H1 st1 R1 rs h1 => ?_
  split at h1
  · exact h1.elim
  · rename_i s m q1
    obtain ⟨e1, g1⟩ := muOf_some q1
    obtain ⟨a', ea', oa', ma'⟩ := R1.muAt e1 g1
    rw [ea] at ea'
    cases ea'
    exact hf F O1 ρ1 σ H1 a ys us s m Q rfl R1 e1 g1 ea oa' ma' rs (h1.laterV st1)
/-- the end of a change: a value out of it, the list changed -/
theorem Hold.mut {F : Fr} {W : WX} {O : Av} {σ : St} {H : Hp} {Q : VK} {ρ : En} {i : Nat} {s : Sl} {m : Mu} {a : Addr} {ds' : List D} {vs' : List V} {d : D} {v : V} (h : Hold F W O σ H (RV F σ H) Q (.ok (d, false) (ρ.set i (s.put (.lst ds'))))) (R : Rel F O ρ σ H) (e : ρ[i]? = some s) (g : s.get = some m)
    (ea : σ[i]? = some (some (.ref a))) (ho : O a) (hr : RepL F.w O H ds' vs') (hv : Rep F.w O H d v) : Q v (upd H a (.lst vs')) := by
  obtain ⟨R', st⟩ := mut_lst R e g ea ho hr
  exact h O _ v st R' (Rep.step st d v hv)
theorem pm_append (i : Nat) (hK : w.K = X.K) (ha : PMA X w W [e] mr) (hN : X.N[i]? = some x := by rfl) (hv : Vis X.env.scope x := by first | exact Or.inl rfl | exact Or.inr (Or.inl rfl) | exact Or.inr (Or.inr rfl)) (hd : (x == ("__debug__" : Str)) = false := by decide)
    (hcd : (x == ("__classdict__" : Str)) = false := by decide) (hbase : attributeBase (.Name x p) "append" X.env (eval (.Name x p) X.env) = eval (.Name x p) X.env := by rfl)
    (hfew : ((backTo pos (starEach [e] X.env)).all (fun x => !x.1) && (backToKw pos (keywordEach [] X.env)).all (fun x => x.1.isSome)
      && decide ([e].length + ([] : List Keyword).length + (if ([] : List Keyword).isEmpty then 0 else 1) < 30)) = true := by rfl) (hline : (apos.endLine == pos.line) = true := by rfl) (hs : starEach [e] X.env = (false, eval e X.env) :: starEach [] X.env := by rfl) :
    PM X w W (.Call (.Attribute (.Name x p) "append" apos) [e] [] pos) (mAppend i mr) := by
  obtain ⟨ta, pa, sa⟩ := ha
  refine ⟨_, pe_bm PySem.F.plainAttrs_list PySem.F.slot_list_append PySem.F.type_list_append mt_append (pv i hN hv hd hcd) pa hbase hfew hline hs, ?_⟩
  rw [← hK]
  refine sim_mut sa fun F O ρ σ H a ys us s m Q hw R e1 g1 ea oa ma rs hh => ?_
  split at hh
  · rename_i ds y
    obtain ⟨u, rfl, hu⟩ := repl1 rs
    obtain ⟨vs, hvs, hr⟩ := ma
    split at hh
    · rename_i hz
      refine ⟨a, vs, u, rfl, rfl, hvs, by rw [hr.length]; exact hz, ?_⟩
      exact hh.mut (d := .non) R e1 g1 ea oa (hr.append (by simp only [RepL]; exact ⟨u, [], rfl, hu, rfl⟩)) (by simp only [Rep])
    · exact hh.elim
  · exact hh.elim
theorem pm_popAt (i : Nat) (hK : w.K = X.K) (ha : PMA X w W [e] mr) (hN : X.N[i]? = some x := by rfl) (hv : Vis X.env.scope x := by first | exact Or.inl rfl | exact Or.inr (Or.inl rfl) | exact Or.inr (Or.inr rfl)) (hd : (x == ("__debug__" : Str)) = false := by decide)
    (hcd : (x == ("__classdict__" : Str)) = false := by decide) (hbase : attributeBase (.Name x p) "pop" X.env (eval (.Name x p) X.env) = eval (.Name x p) X.env := by rfl)
    (hfew : ((backTo pos (starEach [e] X.env)).all (fun x => !x.1) && (backToKw pos (keywordEach [] X.env)).all (fun x => x.1.isSome)
      && decide ([e].length + ([] : List Keyword).length + (if ([] : List Keyword).isEmpty then 0 else 1) < 30)) = true := by rfl) (hline : (apos.endLine == pos.line) = true := by rfl) (hs : starEach [e] X.env = (false, eval e X.env) :: starEach [] X.env := by rfl) :
    PM X w W (.Call (.Attribute (.Name x p) "pop" apos) [e] [] pos) (mPopAt i mr) := by
  obtain ⟨ta, pa, sa⟩ := ha
  refine ⟨_, pe_bm PySem.F.plainAttrs_list PySem.F.slot_list_pop PySem.F.type_list_pop mt_popAt (pv i hN hv hd hcd) pa hbase hfew hline hs, ?_⟩
  rw [← hK]
  refine sim_mut sa fun F O ρ σ H a ys us s m Q hw R e1 g1 ea oa ma rs hh => ?_
  split at hh
  · rename_i ds k
    obtain ⟨u, rfl, hu⟩ := repl1 rs
    obtain ⟨vs, hvs, hr⟩ := ma
    split at hh
    · rename_i hz
      split at hh
      · rename_i d hd
        obtain ⟨v, e2, e3⟩ := hr.get hd
        rw [rep_int hu]
        have hlt : k.toNat < vs.length := lt_of_get e2
        refine ⟨a, vs, k, k.toNat, v, rfl, rfl, hvs, by omega, hz.2, ?_, e2, hh.mut R e1 g1 ea oa hr.erase e3⟩
        have q := (ixN_seq (n := vs.length) (i := k) (j := k.toNat) (by unfold ixN; rw [if_pos hz.1, if_pos (by omega)])).1
        exact q
      · exact hh.elim
    · exact hh.elim
  · exact hh.elim
theorem pm_lenO (i : Nat) (hK : w.K = X.K) (hg : Gl X "len") (hm : X.mg "len" = none) (hN : X.N[i]? = some x := by rfl) (hv : Vis X.env.scope x := by first | exact Or.inl rfl | exact Or.inr (Or.inl rfl) | exact Or.inr (Or.inr rfl)) (hd : (x == ("__debug__" : Str)) = false := by decide)
    (hcd : (x == ("__classdict__" : Str)) = false := by decide) (he : starEach [.Name x p] X.env = (false, eval (.Name x p) X.env) :: starEach [] X.env := by rfl) : PM X w W (.Call (.Name "len" apos) [.Name x p] [] pos) (mLenO i) := by
  refine ⟨_, pe_callB call_len hg hm PySem.boot_len (pa_cons (pv i hN hv hd hcd) pa_nil he) (by decide) (by decide) he, fun F O ρ σ H Q hw R hh => ?_⟩
  subst hw
  unfold mLenO mBehind at hh
  split at hh
  · rename_i s ds q
    obtain ⟨e0, g0⟩ := muOf_some q
    obtain ⟨a, ea, oa, vs, hv, hr⟩ := R.muAt e0 g0
    have hh : Hold F W O σ H (RV F σ H) Q (match muOf i ρ with
      | none => .stuck
      | some (s, m) => (match m with
        | .lst ds => .ok (dI ds.length) ρ
        | _ => .stuck)) := hh
    rw [q] at hh
    refine ⟨.ref a, ea, .ref a, vs.length, rfl, .inl ⟨vs, .inl (.inl hv), rfl⟩, ?_⟩
    rw [hr.length]
    exact Go.int (hh.go (Step.refl _ _) R)
  · exact hh.elim
/-- x[k] = v -/
theorem pms_setItem (i : Nat) {k v : Expr} {mk mv : ME} {spos : Pos} (hv : PM X w W v mv) (hk : PM X w W k mk) (hN : X.N[i]? = some x := by rfl) (hvi : Vis X.env.scope x := by first | exact Or.inl rfl | exact Or.inr (Or.inl rfl) | exact Or.inr (Or.inr rfl)) (hd : (x == ("__debug__" : Str)) = false := by decide)
    (hcd : (x == ("__classdict__" : Str)) = false := by decide)
    (ha : ∀ u, assign (.Subscript (.Name x p) k pos) X.env u = (do
      let ov ← holding [u] (eval (.Name x p) X.env)
      let iv ← holding [u, ov] (eval k X.env)
      standAt pos
      holding [u, ov, iv] (setItem ov iv u)
      release [u, ov, iv] []) := by intro _; rfl)
    (hs : swapsWithSole [.Subscript (.Name x p) k pos] v spos.line X.env = pure false := by rfl) (hw' : swappedStores [.Subscript (.Name x p) k pos] v X.env = pure none := by rfl)
    (h1 : (assignEach [.Subscript (.Name x p) k pos] X.env).map (·.2) = [assign (.Subscript (.Name x p) k pos) X.env] := by rfl) : PMS X w W (.Assign [.Subscript (.Name x p) k pos] v spos) (mSetItem i mk mv) := by
  obtain ⟨tv, pv', sv⟩ := hv
  obtain ⟨tk, pk, sk⟩ := hk
  refine ⟨_, ps_asg pv' (pg_sub (pv i hN hvi hd hcd) pk set_list ha) hs hw' h1, fun F O ρ σ H E hw R hh => ?_⟩
  refine sv.bindS hw R hh fun y u ρ1 O1 H1 st1 R1 rv h2 => ?_
  obtain ⟨O2, s2, R2, r2, s3⟩ := VlAt.release st1 R1 R.doh rv
  have h2 := h2.later s3
  split at h2
  · exact h2.elim
  · rename_i sm q0
    obtain ⟨e0, g0⟩ := muOf_some (s := sm.1) (m := sm.2) q0
    obtain ⟨a, ea, oa, _⟩ := R2.muAt e0 g0
    refine ⟨.ref a, ea, ?_⟩
    refine sk.bindS hw R2 h2 fun kk uk ρ2 O3 H3 st3 R3 rk h3 => ?_
    obtain ⟨O4, s4, R4, r4, s5⟩ := VlAt.release st3 R3 R2.doh rk
    have h3 := h3.later s5
    split at h3
    · rename_i s ds j q1 ek
      obtain ⟨e1, g1⟩ := muOf_some q1
      obtain ⟨a', ea', oa', vs, hvs, hr⟩ := R4.muAt e1 g1
      rw [ea] at ea'
      cases ea'
      rw [ek] at r4
      rw [rep_int r4]
      split at h3
      · rename_i n hn
        refine ⟨a, vs, j, n, rfl, rfl, hvs, by rw [hr.length]; exact hn, ?_⟩
        obtain ⟨R', st⟩ := mut_lst R4 e1 g1 ea oa' (RepL.set (n := n) hr (Rep.step s4 _ _ r2))
        exact h3 O4 σ _ st R'
      · exact h3.elim
    · exact h3.elim
end
end PM

namespace PM
open PySem L2

/-! ### what is walked -/
def ItOk (w : Wd) (ds : List D) (O1 : Av) (H1 : Hp) (J : It) : Prop := ∃ (G : Hp → Prop) (Y : Nat → Hp → V → Hp → Prop), Walk J ds.length G Y ∧ (∀ O' H', Step O1 H1 O' H' → G H') ∧
  ∀ (i : Nat) (O' : Av) (H' : Hp) (x : V) (H'' : Hp), i < ds.length → Step O1 H1 O' H' → Dm O' H' → Y i H' x H'' → Grow H' H'' ∧ ∃ d, ds.drop i = d :: ds.drop (i + 1) ∧ Rep w O' H'' d x
abbrev MI := En → Rs (List D)
def RIt (w : Wd) : En → Av → Hp → It → List D → Prop := fun _ O' H' J ds => ItOk w ds O' H' J
def SimI (w : Wd) (W : WX) (wi : TI) (mi : MI) : Prop := ∀ (F : Fr) (O : Av) (ρ : En) (σ : St) (H : Hp) (R : It → Hp → Prop), F.w = w → Rel F O ρ σ H → Hold F W O σ H (RIt F.w) R (mi ρ) → wi σ H R
def PMI (X : Cx) (w : Wd) (W : WX) (tg it : Expr) (mi : MI) : Prop := ∃ wi, PI X tg it wi ∧ SimI w W wi mi
theorem SimI.bindS {w : Wd} {W : WX} {wi : TI} {mi : MI} (ha : SimI w W wi mi) {F : Fr} {O : Av} {ρ : En} {σ : St} {H : Hp} (hw : F.w = w) (R : Rel F O ρ σ H) {E : Ends} {f : List D → En → Rs Fl} (h : HoldS F W O H E ((mi ρ).bind f)) {k : It → Hp → Prop}
    (hk : ∀ (ds : List D) (J : It) (ρ1 : En) (O1 : Av) (H1 : Hp), Step O H O1 H1 → Rel F O1 ρ1 σ H1 → ItOk F.w ds O1 H1 J → HoldS F W O1 H1 E (f ds ρ1) → k J H1) : wi σ H k := by
  refine ha F O ρ σ H k hw R ?_
  cases e : mi ρ with
  | ok x ρ1 =>
    rw [e] at h
    exact fun O1 H1 v st R1 rv => hk x v ρ1 O1 H1 st R1 rv (h.later st)
  | exc x ρ1 =>
    rw [e] at h
    exact fun O1 H1 cls d st R1 xa => h O1 σ H1 cls d st R1 xa
  | stuck =>
    rw [e] at h
    exact h
theorem SimI.bind {w : Wd} {W : WX} {wi : TI} {mi : MI} (ha : SimI w W wi mi) {F : Fr} {O : Av} {ρ : En} {σ : St} {H : Hp} (hw : F.w = w) (R : Rel F O ρ σ H) {α β : Type} {RA : En → Av → Hp → β → α → Prop} {Q : β → Hp → Prop} {f : List D → En → Rs α}
    (h : Hold F W O σ H RA Q ((mi ρ).bind f)) {k : It → Hp → Prop}
    (hk : ∀ (ds : List D) (J : It) (ρ1 : En) (O1 : Av) (H1 : Hp), Step O H O1 H1 → Rel F O1 ρ1 σ H1 → ItOk F.w ds O1 H1 J → Hold F W O σ H RA Q (f ds ρ1) → k J H1) : wi σ H k := by
  refine ha F O ρ σ H k hw R ?_
  cases e : mi ρ with
  | ok x ρ1 =>
    rw [e] at h
    exact fun O1 H1 v st R1 rv => hk x v ρ1 O1 H1 st R1 rv h
  | exc x ρ1 =>
    rw [e] at h
    exact fun O1 H1 cls d st R1 xa => h O1 H1 cls d st R1 xa
  | stuck =>
    rw [e] at h
    exact h
def itL : D → Option (List D)
  | .lst ds => some ds
  | _ => none
def itT : D → Option (List D)
  | .tup ds => some ds
  | _ => none
def signs (z : Str) : List D := z.cps.toList.map fun c => .str ⟨#[c]⟩
def itS : D → Option (List D)
  | .str z => some (signs z)
  | _ => none
def mIt (f : D → Option (List D)) (m : ME) : MI := fun ρ => (m ρ).bind fun x ρ1 => lift (f x.1) ρ1
def mItA (f : List D → Option (List D)) (m : MA) : MI := fun ρ => (m ρ).bind fun x ρ1 => lift (f x) ρ1
theorem ItOk.at {w : Wd} {O1 : Av} {H1 : Hp} {J : It} {ds : List D} {vs : List V} {G : Hp → Prop} (hw : Walk J vs.length G (YAt vs)) (hr : RepL w O1 H1 ds vs) (hG : ∀ O' H', Step O1 H1 O' H' → G H') : ItOk w ds O1 H1 J := by
  refine ⟨G, YAt vs, hr.length ▸ hw, hG, fun i O' H' x H'' hi st dm y => ?_⟩
  obtain ⟨rfl, e⟩ := y
  obtain ⟨d, e1, e2⟩ := hr.at e
  exact ⟨Grow.refl _, d, e1, Rep.step st _ _ e2⟩
section
variable {w : Wd} {W : WX} {X : Cx} {pos p : Pos} {it tg : Expr} {m : ME} {mr : MA} {a b : Expr}
theorem pmi_list (hK : w.K = X.K) (h : PM X w W it m) : PMI X w W tg it (mIt itL m) := by
  obtain ⟨t, p, s⟩ := h
  refine ⟨_, pi_list p, fun F O ρ σ H R hw R0 hh => ?_⟩
  subst hw
  refine s.bind rfl R0 hh fun x v ρ1 O1 H1 st R1 rx h1 => ?_
  cases q : itL x.1 with
  | none => rw [q] at h1; exact h1.elim
  | some ds =>
    rw [q] at h1
    have ex : x.1 = .lst ds := by
      revert q
      cases x.1 <;> simp [itL]
    rw [ex] at rx
    simp only [Rep] at rx
    obtain ⟨c, vs, rfl, hq, hr⟩ := rx
    refine ⟨c, rfl, ⟨vs, hK ▸ sl_of_rep hq⟩, h1 O1 H1 _ st R1 (ItOk.at walk_list hr fun O' H' st' => hK ▸ sl_of_rep (At.step st' hq))⟩
theorem pmi_tup (hK : w.K = X.K) (h : PM X w W it m) : PMI X w W tg it (mIt itT m) := by
  obtain ⟨t, p, s⟩ := h
  refine ⟨_, pi_tup p, fun F O ρ σ H R hw R0 hh => ?_⟩
  subst hw
  refine s.bind rfl R0 hh fun x v ρ1 O1 H1 st R1 rx h1 => ?_
  cases q : itT x.1 with
  | none => rw [q] at h1; exact h1.elim
  | some ds =>
    rw [q] at h1
    have ex : x.1 = .tup ds := by
      revert q
      cases x.1 <;> simp [itT]
    rw [ex] at rx
    simp only [Rep] at rx
    obtain ⟨c, vs, rfl, hq, hr⟩ := rx
    refine ⟨c, rfl, ⟨vs, hK ▸ sq_of_rep hq⟩, h1 O1 H1 _ st R1 (ItOk.at walk_tup hr fun O' H' st' => hK ▸ sq_of_rep (hq.imp (At.step st') id))⟩
theorem pmi_str (h : PM X w W it m) : PMI X w W tg it (mIt itS m) := by
  obtain ⟨t, p, s⟩ := h
  refine ⟨_, pi_str p, fun F O ρ σ H R hw R0 hh => ?_⟩
  subst hw
  refine s.bind rfl R0 hh fun x v ρ1 O1 H1 st R1 rx h1 => ?_
  cases q : itS x.1 with
  | none => rw [q] at h1; exact h1.elim
  | some ds =>
    rw [q] at h1
    obtain ⟨z, ex, ez⟩ : ∃ z, x.1 = .str z ∧ ds = signs z := by
      revert q
      cases x.1 <;> simp [itS]
      intro h
      exact h.symm
    subst ez
    rw [ex] at rx
    refine ⟨z, rep_str rx, h1 O1 H1 _ st R1 ⟨fun _ => True, fun i H v H' => H' = H ∧ ∃ c, z.cps[i]? = some c ∧ v = .str ⟨#[c]⟩, ?_, fun _ _ _ => trivial, fun i O' H' x H'' hi st' dm y => ?_⟩⟩
    · have : (signs z).length = z.cps.size := by simp [signs]
      rw [this]
      exact walk_str
    · obtain ⟨rfl, c, e, rfl⟩ := y
      refine ⟨Grow.refl _, .str ⟨#[c]⟩, ?_, by simp only [Rep]⟩
      have hlt : i < z.cps.toList.length := by simpa [signs] using hi
      have e' : z.cps.toList[i] = c := by
        have := Array.getElem?_eq_some_iff.mp e
        obtain ⟨h, e⟩ := this
        simpa using e
      unfold signs
      rw [← List.map_drop, ← List.map_drop, List.drop_eq_getElem_cons hlt, List.map_cons, e']
theorem itok_rg {lo : Int} {n : Nat} {O1 : Av} {H1 : Hp} : ItOk w (rgL lo n) O1 H1 (Itr lo n) := by
  refine ⟨fun _ => True, YFn fun i => .int (lo + i), ?_, fun _ _ _ => trivial, fun i O' H' x H'' hi st' dm y => ?_⟩
  · rw [rgL_length]
    exact walk_range
  · obtain ⟨rfl, rfl⟩ := y
    rw [rgL_length] at hi
    exact ⟨Grow.refl _, _, rgL_drop lo n i hi, by simp only [Rep]⟩
theorem pmi_range1 (hg : Gl X "range") (hm : X.mg "range" = none) (ha : PMA X w W [a] mr) (hst : starEach [a] X.env = [(false, eval a X.env)] := by rfl) : PMI X w W tg (.Call (.Name "range" p) [a] [] pos) (mItA rng1 mr) := by
  obtain ⟨t, pa, s⟩ := ha
  refine ⟨_, pi_range1 hg hm pa hst, fun F O ρ σ H R hw R0 hh => ?_⟩
  subst hw
  refine s.bind rfl R0 hh fun xs vs ρ1 O1 H1 st R1 rs h1 => ?_
  cases q : rng1 xs with
  | none => rw [q] at h1; exact h1.elim
  | some ds =>
    rw [q] at h1
    unfold rng1 at q
    split at q
    · rename_i j
      split at q
      · rename_i hj
        cases q
        obtain ⟨v, rfl, r1⟩ := repl1 rs
        rw [rep_int r1]
        exact ⟨j, rfl, hj.1, hj.2, h1 O1 H1 _ st R1 itok_rg⟩
      · cases q
    · cases q
end

/-! ### for -/
def mFor (mi : MI) (g : MG) (body : MS) : MS := fun ρ => (mi ρ).bind fun ds ρ1 => mLoop g body ds ρ1
section
variable {w : Wd} {W : WX} {X : Cx} {pos : Pos} {it tg : Expr} {mi : MI} {body : List Stmt} {mb : MS} {g : MG} {js : List Nat}
theorem pms_for (hp : PassesOwn (model X.prog X.w) X.A X.env X.xe) (hc : X.calm = true) (hi : PMI X w W tg it mi) (hg : PMG X w tg g js) (hb : PMSs X w W body mb) (hs : ∀ x, foldedSetIterable it X.env x = pure x := by intro _; rfl) :
    PMS X w W (.For tg it body [] pos) (mFor mi g mb) := by
  obtain ⟨wi, pi, si⟩ := hi
  obtain ⟨gg, pg, sg⟩ := hg
  obtain ⟨tb, pb, sb⟩ := hb
  refine ⟨_, ps_for hp hc pi pg pb hs, fun F O ρ σ H E hw R hh => ?_⟩
  refine si.bindS hw R hh fun ds J ρ1 O1 H1 st1 R1 io h1 => ?_
  obtain ⟨G, Y, wk, hG, hY⟩ := io
  refine for_it wk (fun i σ' H' => ∃ O' ρ', Step O1 H1 O' H' ∧ Rel F O' ρ' σ' H' ∧ HoldS F W O1 H1 E (mLoop g mb (ds.drop i) ρ')) ⟨O1, ρ1, Step.refl _ _, R1, h1⟩ ?_ ?_ ?_
  · rintro i σ' H' _ ⟨O', ρ', st, R', _⟩
    exact hG O' H' st
  · rintro i x σ' H' H'' hi ⟨O', ρ', st, R', hl⟩ y
    obtain ⟨gr, d, ed, rd⟩ := hY i O' H' x H'' hi st R'.dom y
    rw [ed] at hl
    exact loop_turn sg sb hw (R'.grow gr) (hw ▸ rd) (st.trans gr.step) hl fun O3 ρ3 σ3 H3 st3 R3 h3 => ⟨O3, ρ3, st3, R3, h3⟩
  · rintro σ' H' ⟨O', ρ', st, R', hl⟩
    rw [List.drop_length] at hl
    exact hl O' σ' H' st R'
end

/-! ### a frame within the frame: nothing but the slots' own lists is changed -/
def ownAt (ρ : En) (σ : St) (a : Addr) : Prop := ∃ (i : Nat) (m : Mu), ρ[i]? = some (.own m) ∧ σ[i]? = some (some (.ref a))
open Classical in
noncomputable def heLess (ρ : En) (σ : St) (H : Hp) : Hp := fun a => if ownAt ρ σ a then none else H a
section
variable {F : Fr} {O : Av} {ρ : En} {σ : St} {H : Hp}
theorem heLess_some {a : Addr} {o : HO} (h : heLess ρ σ H a = some o) : H a = some o ∧ ¬ ownAt ρ σ a := by
  unfold heLess at h
  split at h
  · cases h
  · exact ⟨h, by assumption⟩
theorem heLess_not {a : Addr} (h : ¬ ownAt ρ σ a) : heLess ρ σ H a = H a := by
  unfold heLess
  rw [if_neg h]
theorem heLess_own {a : Addr} (h : ownAt ρ σ a) : heLess ρ σ H a = none := by
  unfold heLess
  rw [if_pos h]
/-- the frame within, with d guarded besides -/
noncomputable def Fr.within (F : Fr) (ρ : En) (σ : St) (H : Hp) (d : Addr) : Fr := ⟨F.w, ins F.B d, F.Io, heLess ρ σ H⟩
theorem own_he (R : Rel F O ρ σ H) {a : Addr} (h : ownAt ρ σ a) : F.He a = none := by
  obtain ⟨i, m, e1, e2⟩ := h
  obtain ⟨b, q1, q2, q3, _⟩ := R.slot i _ e1
  rw [e2] at q1
  cases q1
  exact q3
theorem Rel.within (R : Rel F O ρ σ H) {d : Addr} (hd : O d) (ap : Apart ρ σ d) : Rel (F.within ρ σ H d) O ρ σ H where
  len := R.len
  b0 := fun a h => h.elim (R.b0 a) fun e => by rw [e]; exact hd
  bh := fun a h => by
    have na : ¬ ownAt ρ σ a := fun ow => by
      rcases h with h | h
      · exact R.bh a h (own_he R ow)
      · obtain ⟨i, m, e1, e2⟩ := ow
        subst h
        exact ap i _ e1 rfl e2
    show heLess ρ σ H a ≠ none
    rw [heLess_not na]
    rcases h with h | h
    · exact R.dom a (R.b0 a h)
    · rw [h]
      exact R.dom d hd
  ib := fun i a h => .inl (R.ib i a h)
  dom := R.dom
  doh := fun a h => by
    have h : heLess ρ σ H a ≠ none := h
    cases e : heLess ρ σ H a with
    | none => exact absurd e h
    | some o => rw [(heLess_some e).1]; simp
  tab := R.tab
  keep := fun a o h _ => (heLess_some h).1
  slot := fun i s e => by
    have q := R.slot i s e
    cases s with
    | non => trivial
    | val d => exact q
    | own m =>
      obtain ⟨b, q1, q2, q3, q4⟩ := q
      exact ⟨b, q1, q2, heLess_own ⟨i, m, e, q1⟩, q4⟩
    | io m => exact q
  dist := R.dist
/-- back, behind it: d is as it was -/
theorem Rel.without (R0 : Rel F O ρ σ H) {d : Addr} {o : HO} (hd : H d = some o) (ap : Apart ρ σ d) (hb : ¬ F.B d) {O' : Av} {ρ' : En} {σ' : St} {H' : Hp} (R : Rel (F.within ρ σ H d) O' ρ' σ' H') : Rel F O' ρ' σ' H' ∧ O' d ∧ H' d = some o := by
  have nd : ¬ ownAt ρ σ d := fun ⟨i, m, e1, e2⟩ => ap i _ e1 rfl e2
  refine ⟨⟨R.len, fun a h => R.b0 a (.inl h), R0.bh, R0.ib, R.dom, fun a h => ?_, fun a o h n => ?_, fun i s e => ?_, R.dist, R.tab⟩, R.b0 d (.inr rfl), R.keep d o ?_ fun i q => hb (R0.ib i d q)⟩
  · have na : ¬ ownAt ρ σ a := fun ow => h (own_he R0 ow)
    refine R.doh a ?_
    show heLess ρ σ H a ≠ none
    rw [heLess_not na]
    exact R0.doh a h
  · have na : ¬ ownAt ρ σ a := fun ow => by
      rw [own_he R0 ow] at h
      cases h
    refine R.keep a o ?_ n
    show heLess ρ σ H a = some o
    rw [heLess_not na]
    exact R0.keep a o h n
  · have q := R.slot i s e
    cases s with
    | non => trivial
    | val d => exact q
    | own m =>
      obtain ⟨b, q1, q2, q3, q4⟩ := q
      refine ⟨b, q1, q2, ?_, q4⟩
      have q3 : heLess ρ σ H b = none := q3
      by_cases ow : ownAt ρ σ b
      · exact own_he R0 ow
      · rw [heLess_not ow] at q3
        exact R0.freshE q3
    | io m => exact q
  · show heLess ρ σ H d = some o
    rw [heLess_not nd]
    exact hd
/-- a guarded thing that no slot holds is changed -/
theorem Rel.updG (R : Rel F O ρ σ H) {a : Addr} {o' : HO} (ho : O a) (ap : Apart ρ σ a) (he : F.He a = none) : Rel F O ρ σ (upd H a o') := by
  have st : Step O H O (upd H a o') := mut_step ho
  refine ⟨R.len, R.b0, R.bh, R.ib, fun b q => st.dom b (R.dom b q), fun b q => st.dom b (R.doh b q), fun b o q n => ?_, fun i s e => ?_, R.dist, R.tab.step st fun p hp => upd_ne fun z => R.bh p.1 (R.ib _ _ (R.tab p hp).1) (z ▸ he)⟩
  · rw [upd_ne fun z => by rw [z, he] at q; cases q]
    exact R.keep b o q n
  · have q := R.slot i s e
    cases s with
    | non => trivial
    | val d =>
      obtain ⟨v, q1, q2⟩ := q
      exact ⟨v, q1, Rep.step st d v q2⟩
    | own m =>
      obtain ⟨b, q1, q2, q3, q4⟩ := q
      exact ⟨b, q1, q2, q3, q4.step st (upd_ne fun z => ap i _ e rfl (z ▸ q1))⟩
    | io m =>
      obtain ⟨b, q1, q2, q4⟩ := q
      exact ⟨b, q1, q2, q4.step st (upd_ne fun z => ap i _ e rfl (z ▸ q1))⟩
end
end PM

namespace PM
open PySem L2

def wipeE (ρ : En) : List Nat → En
  | [] => ρ
  | v :: vs => (wipeE ρ vs).set v .non
theorem wipeE_get {ρ : En} {vs : List Nat} {j : Nat} {s : Sl} (h : (wipeE ρ vs)[j]? = some s) : s = .non ∨ (j ∉ vs ∧ ρ[j]? = some s) := by
  induction vs with
  | nil => exact .inr ⟨by simp, h⟩
  | cons v vs ih =>
    unfold wipeE at h
    rcases get_set h with ⟨e1, e2⟩ | ⟨e1, e2⟩
    · exact .inl e2
    · rcases ih e2 with q | ⟨q1, q2⟩
      · exact .inl q
      · exact .inr ⟨by simp [Ne.symm e1, q1], q2⟩
theorem wipeE_len {ρ : En} {vs : List Nat} : (wipeE ρ vs).length = ρ.length := by
  induction vs with
  | nil => rfl
  | cons v vs ih => simp [wipeE, ih]
theorem wipe_off {σ : St} {vs : List Nat} {j : Nat} (h : j ∉ vs) : (wipe σ vs)[j]? = σ[j]? := by rw [wipe_get, if_neg h]
theorem wipe_twice {σ : St} {vs : List Nat} : wipe (wipe σ vs) vs = wipe σ vs := by
  apply List.ext_getElem?
  intro j
  rw [wipe_get, wipe_get]
  by_cases h : j ∈ vs
  · rw [if_pos h, if_pos h]
    cases σ[j]? <;> rfl
  · rw [if_neg h, if_neg h]
section
variable {F : Fr} {O : Av} {ρ : En} {σ τ : St} {H : Hp} {vs : List Nat}
/-- the slots of a block's names are emptied; of the others nothing else than before is asked -/
theorem Rel.slots (R : Rel F O ρ τ H) (hl : ρ.length = σ.length) (hs : ∀ j, j ∉ vs → σ[j]? = τ[j]?) : Rel F O (wipeE ρ vs) σ H := by
  refine ⟨wipeE_len.trans hl, R.b0, R.bh, R.ib, R.dom, R.doh, R.keep, fun j s e => ?_, fun i j s t e1 e2 m1 m2 q => ?_, R.tab⟩
  · rcases wipeE_get e with rfl | ⟨n, e⟩
    · trivial
    · rw [hs j n]
      exact R.slot j s e
  · rcases wipeE_get e1 with rfl | ⟨n1, e1⟩
    · cases m1
    · rcases wipeE_get e2 with rfl | ⟨n2, e2⟩
      · cases m2
      · rw [hs i n1, hs j n2] at q
        exact R.dist i j s t e1 e2 m1 m2 q
theorem Rel.wipe (R : Rel F O ρ σ H) : Rel F O (wipeE ρ vs) (wipe σ vs) H := R.slots (by rw [wipe_length]; exact R.len) fun j h => wipe_off h
theorem Apart.slots {a : Addr} (R : Apart ρ τ a) (hs : ∀ j, j ∉ vs → σ[j]? = τ[j]?) : Apart (wipeE ρ vs) σ a := fun j s e m => by
  rcases wipeE_get e with rfl | ⟨n, e⟩
  · cases m
  · rw [hs j n]
    exact R j s e m
/-- what lies guarded from outside the frame, and was there at its beginning, no slot may change -/
theorem Rel.apartB (R : Rel F O ρ σ H) {a : Addr} (h : F.He a ≠ none) (n : ∀ i, ¬ F.Io i a) : Apart ρ σ a := fun i s e m q => by
  have z := R.slot i s e
  cases s with
  | non => cases m
  | val d => cases m
  | own m0 =>
    obtain ⟨b, e1, e2, e3, e4⟩ := z
    rw [q] at e1
    cases e1
    exact h e3
  | io m0 =>
    obtain ⟨b, e1, e2, e4⟩ := z
    rw [q] at e1
    cases e1
    exact n i e2
end

/-! ### [e for x in it if t] -/
def mLcLoop (g : MG) (vs : List Nat) (mt : MT) (me : ME) : List D → List D → En → Rs (List D)
  | [], acc, ρ => .ok acc ρ
  | d :: ds, acc, ρ => match g d ρ with
    | none => .stuck
    | some ρ1 => match mt ρ1 with
      | .ok b ρ2 => if b = true then (match me ρ2 with
          | .ok y ρ3 => if acc.length < sizeLine then mLcLoop g vs mt me ds (acc ++ [y.1]) (wipeE ρ3 vs) else .stuck
          | _ => .stuck) else mLcLoop g vs mt me ds acc (wipeE ρ2 vs)
      | _ => .stuck
def mLc (mi : MI) (vs : List Nat) (g : MG) (mt : MT) (me : ME) : ME := fun ρ => (mi ρ).bind fun ds ρ1 => (mLcLoop g vs mt me ds [] (wipeE ρ1 vs)).bind fun acc ρ2 => .ok (.lst acc, true) (wipeE ρ2 vs)
def mYes : MT := fun ρ => .ok true ρ
theorem simI_bind1 {wi : TI} {mi : MI} {W : WX} {F : Fr} {O : Av} {ρ : En} {σ : St} {H : Hp} (si : ∀ k : It → Hp → Prop, Hold F W O σ H (RIt F.w) k (mi ρ) → wi σ H k) {α β : Type} {RA : En → Av → Hp → β → α → Prop} {Q : β → Hp → Prop} {f : List D → En → Rs α}
    (h : Hold F W O σ H RA Q ((mi ρ).bind f)) {k : It → Hp → Prop}
    (hk : ∀ (ds : List D) (J : It) (ρ1 : En) (O1 : Av) (H1 : Hp), Step O H O1 H1 → Rel F O1 ρ1 σ H1 → ItOk F.w ds O1 H1 J → Hold F W O σ H RA Q (f ds ρ1) → k J H1) : wi σ H k := by
  refine si k ?_
  cases e : mi ρ with
  | ok x ρ1 =>
    rw [e] at h
    exact fun O1 H1 v st R1 rv => hk x v ρ1 O1 H1 st R1 rv h
  | exc x ρ1 =>
    rw [e] at h
    exact fun O1 H1 cls d st R1 xa => h O1 H1 cls d st R1 xa
  | stuck =>
    rw [e] at h
    exact h
/-- what is walked is known at this frame alone -/
theorem sim_lc1 {w : Wd} {W : WX} {wi : TI} {mi : MI} {gg : TG} {g : MG} {js vs : List Nat} {tt : TT} {mt : MT} {te : TE} {me : ME} {F : Fr} {O : Av} {ρ : En} {σ : St} {H : Hp} {Q : VK} (si : ∀ k : It → Hp → Prop, Hold F W O σ H (RIt F.w) k (mi ρ) → wi σ H k) (sg : SimG w gg g js) (stt : SimT w W0 tt mt) (se : Sim w W0 te me) (hj : ∀ j ∈ js, j ∈ vs)
    (hw : F.w = w) (R : Rel F O ρ σ H) (hh : Hold F W O σ H (RV F σ H) Q (mLc mi vs g mt me ρ)) : tLc wi gg tt te vs σ H Q := by
  refine simI_bind1 si hh fun ds J ρ1 O1 H1 st1 R1 io h1 => ?_
  intro Dl hD
  obtain ⟨G, Y, wk, hG, hY⟩ := io
  have hDe : F.He Dl = none := R1.freshE hD
  have hDb : ¬ F.B Dl := fun q => R1.bh Dl q hDe
  have hDi : ∀ i, ¬ F.Io i Dl := fun i q => hDb (R1.ib i Dl q)
  have g0 : Grow H1 (upd H1 Dl (.lst [])) := Grow.new hD
  have R2 : Rel F (ins O1 Dl) ρ1 σ (upd H1 Dl (.lst [])) := R1.guard g0 hD (by rw [upd_same]; simp)
  refine lc_it wk (fun i H' => ∃ (O' : Av) (ρ' : En) (acc : List D) (va : List V), Step O1 H1 O' H' ∧ Rel F O' ρ' (wipe σ vs) H' ∧ O' Dl ∧ Apart ρ' (wipe σ vs) Dl ∧ H' Dl = some (.lst va) ∧ RepL F.w O' H' acc va ∧
      Hold F W O σ H (RV F σ H) Q ((mLcLoop g vs mt me (ds.drop i) acc ρ').bind fun acc ρ2 => .ok (.lst acc, true) (wipeE ρ2 vs))) ?_ ?_ ?_ ?_
  · exact ⟨ins O1 Dl, wipeE ρ1 vs, [], [], ins_step g0 hD, R2.wipe, .inr rfl, (R1.apart hD).slots fun j h => wipe_off h, upd_same, by simp only [RepL], h1⟩
  · rintro i H' _ ⟨O', ρ', acc, va, st, _⟩
    exact hG O' H' st
  · rintro i x H' H'' hi ⟨O', ρ', acc, va, st, R', od, ap, hd, ra, hl⟩ y
    obtain ⟨gr, d, ed, rd⟩ := hY i O' H' x H'' hi st R'.dom y
    rw [ed] at hl
    have R3 : Rel F O' ρ' (wipe σ vs) H'' := R'.grow gr
    have hd3 : H'' Dl = some (.lst va) := gr _ _ hd
    have ra3 : RepL F.w O' H'' acc va := RepL.step gr.step _ _ ra
    have st3 : Step O1 H1 O' H'' := st.trans gr.step
    have Rw : Rel (F.within ρ' (wipe σ vs) H'' Dl) O' ρ' (wipe σ vs) H'' := R3.within od ap
    have nw : ¬ ownAt ρ' (wipe σ vs) Dl := fun ⟨i, m, e1, e2⟩ => ap i _ e1 rfl e2
    have heD : (F.within ρ' (wipe σ vs) H'' Dl).He Dl ≠ none := by
      show heLess ρ' (wipe σ vs) H'' Dl ≠ none
      rw [heLess_not nw, hd3]
      simp
    unfold mLcLoop at hl
    cases q : g d ρ' with
    | none => simp only [q] at hl; exact hl.elim
    | some ρa =>
      simp only [q] at hl
      refine sg (F.within ρ' (wipe σ vs) H'' Dl) O' ρ' ρa (wipe σ vs) H'' x d _ hw Rw (hw ▸ rd) q fun σa Ra out => ?_
      have ew : wipe σa vs = wipe σ vs := (out vs hj).trans wipe_twice
      have hs : ∀ j, j ∉ vs → (wipe σ vs)[j]? = σa[j]? := fun j h => by rw [← ew, wipe_off h]
      have hlen : ∀ {ρx : En} {Ox : Av} {Hx : Hp}, Rel F Ox ρx σa Hx → ρx.length = (wipe σ vs).length := fun Rx => by rw [Rx.len, ← ew, wipe_length]
      refine ⟨ew, stt (F.within ρ' (wipe σ vs) H'' Dl) O' ρa σa H'' _ hw Ra ?_⟩
      cases q2 : mt ρa with
      | stuck => simp only [q2] at hl; exact hl
      | exc x ρb => simp only [q2] at hl; exact hl.elim
      | ok b ρb =>
        simp only [q2] at hl
        intro Ob Hb b' stb Rb eb
        have eb : b' = b := eb
        subst eb
        cases b' with
        | false =>
          refine iteF ?_
          obtain ⟨Rf, ob, hb⟩ := R3.without hd3 ap hDb Rb
          refine ⟨Ob, wipeE ρb vs, acc, va, st3.trans stb, Rf.slots (hlen Rf) hs, ob, (Rb.apartB heD hDi).slots hs, hb, RepL.step stb _ _ ra3, ?_⟩
          exact hl
        | true =>
          refine iteT (se (F.within ρ' (wipe σ vs) H'' Dl) Ob ρb σa Hb _ hw Rb ?_)
          cases q3 : me ρb with
          | stuck => simp only [q3] at hl; exact hl
          | exc x ρc => simp only [q3] at hl; exact hl.elim
          | ok yv ρc =>
            simp only [q3] at hl
            intro Oc Hc v stc Rc rv
            obtain ⟨O5, s5, R5, r5, _⟩ := VlAt.release stc Rc Rb.doh rv
            obtain ⟨Rf, ob, hb⟩ := R3.without hd3 ap hDb R5
            have ap5 : Apart ρc σa Dl := R5.apartB heD hDi
            rw [if_pos trivial] at hl
            split at hl
            · rename_i hz
              have st5 : Step O' H'' O5 Hc := stb.trans s5
              have ra5 : RepL F.w O5 Hc acc va := RepL.step st5 _ _ ra3
              have R6 : Rel F O5 ρc σa (upd Hc Dl (.lst (va ++ [v]))) := Rf.updG ob ap5 hDe
              have mst : Step O5 Hc O5 (upd Hc Dl (.lst (va ++ [v]))) := mut_step ob
              refine ⟨va, hb, by rw [ra5.length]; exact hz, O5, wipeE ρc vs, acc ++ [yv.1], va ++ [v], (st3.trans st5).trans mst, R6.slots (hlen R6) hs, ob, ap5.slots hs, upd_same, ?_, hl⟩
              refine RepL.step mst _ _ (ra5.append ?_)
              simp only [RepL]
              exact ⟨v, [], rfl, r5, rfl⟩
            · exact hl.elim
  · rintro H' ⟨O', ρ', acc, va, st, R', od, ap, hd, ra, hl⟩
    rw [List.drop_length] at hl
    have hl : Hold F W O σ H (RV F σ H) Q (.ok (.lst acc, true) (wipeE ρ' vs)) := hl
    have back : ∀ j, j ∉ vs → σ[j]? = (wipe σ vs)[j]? := fun j h => (wipe_off h).symm
    exact hl O' H' (.ref Dl) (st1.trans st) (R'.slots (by rw [R'.len, wipe_length]) back) ⟨Dl, .lst acc, rfl, st1.none_back hD, od, rfl, ⟨va, hd, ra⟩, ap.slots back⟩
theorem sim_lc {w : Wd} {W : WX} {wi : TI} {mi : MI} {gg : TG} {g : MG} {js vs : List Nat} {tt : TT} {mt : MT} {te : TE} {me : ME} (si : SimI w W wi mi) (sg : SimG w gg g js) (stt : SimT w W0 tt mt) (se : Sim w W0 te me) (hj : ∀ j ∈ js, j ∈ vs) :
    Sim w W (tLc wi gg tt te vs) (mLc mi vs g mt me) := fun F O ρ σ H Q hw R hh => sim_lc1 (fun k hk => si F O ρ σ H k hw R hk) sg stt se hj hw R hh
section
variable {w : Wd} {W : WX} {X : Cx} {pos spos py : Pos} {elt tg iter : Expr} {ifs : List Expr} {scope : Scope} {own : List (Str × Nat)} {mi : MI} {g : MG} {js : List Nat} {mt : MT} {me : ME}
def PMTs (X : Cx) (w : Wd) (W : WX) (ifs : List Expr) (m : MT) : Prop := ∃ t, PTs X ifs t ∧ SimT w W t m
theorem pmts_nil : PMTs X w W [] mYes := ⟨_, pts_nil, fun F O ρ σ H Q hw R hh => hh O H true (Step.refl _ _) R rfl⟩
theorem pmts_one {c : Expr} {m : MT} (h : PMT X w W c m) : PMTs X w W [c] m := by
  obtain ⟨t, p, s⟩ := h
  exact ⟨t, pts_one p, s⟩
/-! one reading for a judgement, whatever it was found by -/
def teOf (w : Wd) (W : WX) (m : ME) : TE := fun σ H Q => ∃ (F : Fr) (O : Av) (ρ : En), F.w = w ∧ Rel F O ρ σ H ∧ Hold F W O σ H (RV F σ H) Q (m ρ)
def ttOf (w : Wd) (W : WX) (m : MT) : TT := fun σ H Q => ∃ (F : Fr) (O : Av) (ρ : En), F.w = w ∧ Rel F O ρ σ H ∧ Hold F W O σ H RBl Q (m ρ)
def tgOf (w : Wd) (g : MG) (js : List Nat) : TG := fun v σ H Q => ∃ (F : Fr) (O : Av) (ρ ρ1 : En) (d : D), F.w = w ∧ Rel F O ρ σ H ∧ Rep F.w O H d v ∧ g d ρ = some ρ1 ∧ ∀ σ1, Rel F O ρ1 σ1 H → Out js σ σ1 → Q σ1 H
theorem sim_of {m : ME} : Sim w W (teOf w W m) m := fun F O ρ σ H Q hw R hh => ⟨F, O, ρ, hw, R, hh⟩
theorem simt_of {m : MT} : SimT w W (ttOf w W m) m := fun F O ρ σ H Q hw R hh => ⟨F, O, ρ, hw, R, hh⟩
theorem simg_of : SimG w (tgOf w g js) g js := fun F O ρ ρ1 σ H v d Q hw R h e k => ⟨F, O, ρ, ρ1, d, hw, R, h, e, k⟩
theorem PM.pe {e : Expr} {m : ME} (h : PM X w W e m) : PE X e (teOf w W m) := by
  obtain ⟨te, p, s⟩ := h
  exact ⟨fun pins s0 σ H Q I ⟨F, O, ρ, hw, R, hh⟩ => p.run pins s0 σ H Q I (s F O ρ σ H Q hw R hh)⟩
theorem PMTs.pe {e : List Expr} {m : MT} (h : PMTs X w W e m) : PTs X e (ttOf w W m) := by
  obtain ⟨te, p, s⟩ := h
  exact ⟨fun pins s0 σ H Q I ⟨F, O, ρ, hw, R, hh⟩ => p.run pins s0 σ H Q I (s F O ρ σ H Q hw R hh)⟩
theorem PMG.pe {e : Expr} (h : PMG X w e g js) : PG X e (tgOf w g js) := by
  obtain ⟨te, p, s⟩ := h
  exact ⟨fun pins s0 σ H v u Q I r ⟨F, O, ρ, ρ1, d, hw, R, hd, e, k⟩ => p.run pins s0 σ H v u Q I r (s F O ρ ρ1 σ H v d Q hw R hd e k)⟩
theorem pm_lc (hc : X.calm = true) (hN : X.N.Nodup) (hi : PMI X w W tg iter mi) (ok : BlkOk X.N X.env.scope scope own) (hj : ∀ j ∈ js, j ∈ own.map (·.2))
    (hg : ∀ (s : Shared) (H : Hp) (C : Addr) (cl : List (Str × Addr)) (fp : List Addr), PMG (X.blk s H scope (compEnvC scope cl C X.env) fp) w tg g js) (ht : ∀ (s : Shared) (H : Hp) (C : Addr) (cl : List (Str × Addr)) (fp : List Addr), PMTs (X.blk s H scope (compEnvC scope cl C X.env) fp) w W0 ifs mt)
    (he : ∀ (s : Shared) (H : Hp) (C : Addr) (cl : List (Str × Addr)) (fp : List Addr), PM (X.blk s H scope (compEnvC scope cl C X.env) fp) w W0 elt me) (hs : ∀ x, foldedSetIterable iter X.env x = pure x := by intro _; rfl) :
    PM X w W (.ListComp elt [⟨tg, iter, ifs, 0⟩] scope pos) (mLc mi (own.map (·.2)) g mt me) := by
  obtain ⟨wi, pi, si⟩ := hi
  exact ⟨_, pe_lc hc hN pi ok (fun s H C cl fp => (hg s H C cl fp).pe) (fun s H C cl fp => (ht s H C cl fp).pe) (fun s H C cl fp => (he s H C cl fp).pe) hs, sim_lc si simg_of simt_of sim_of hj⟩
end
end PM

namespace PM
open PySem L2

/-! ### (*x, ..) -/
def itSeq : D → Option (List D)
  | .lst ds => some ds
  | .tup ds => some ds
  | _ => none
def mStar (me : ME) (mr : MA) : MA := fun ρ => (me ρ).bind fun x ρ1 => match itSeq x.1 with
  | none => .stuck
  | some ds => (mr ρ1).bind fun ys ρ2 => .ok (ds ++ ys) ρ2
section
variable {w : Wd} {W : WX} {X : Cx} {pos p p2 : Pos} {e : Expr} {es : List Expr} {m : ME} {mr : MA}
/-! ### f-strings -/
def mJs : List ME → Str → En → Rs Vl
  | [], acc, ρ => .ok (dS acc) ρ
  | m :: ms, acc, ρ => (m ρ).bind fun x ρ1 => match x.1 with
    | .str y => if (acc ++ y).length ≤ sizeLine then mJs ms (acc ++ y) ρ1 else .stuck
    | _ => .stuck
/-! ### slices -/
abbrev MO := En → Rs (Option Int)
def RO : En → Av → Hp → Option Int → Option Int → Prop := fun _ _ _ b a => b = a
def SimO (w : Wd) (W : WX) (t : TO) (m : MO) : Prop := ∀ (F : Fr) (O : Av) (ρ : En) (σ : St) (H : Hp) (Q : Option Int → Hp → Prop), F.w = w → Rel F O ρ σ H → Hold F W O σ H RO Q (m ρ) → t σ H Q
def PMO (X : Cx) (w : Wd) (W : WX) (e : Option Expr) (m : MO) : Prop := ∃ t, PO X e t ∧ SimO w W t m
def mNo : MO := fun ρ => .ok none ρ
def asI : D → Option Int
  | .int i => some i
  | _ => none
def mPart (m : ME) : MO := fun ρ => (m ρ).bind fun x ρ1 => match asI x.1 with
  | some i => .ok (some i) ρ1
  | none => .stuck
theorem pmo_none : PMO X w W none mNo := ⟨_, po_none, fun F O ρ σ H Q hw R hh => hh O H none (Step.refl _ _) R rfl⟩
theorem pmo_some (he : PM X w W e m) : PMO X w W (some e) (mPart m) := by
  obtain ⟨te, pe, se⟩ := he
  refine ⟨_, po_some pe, fun F O ρ σ H Q hw R hh => ?_⟩
  subst hw
  refine se.bind rfl R hh fun x v ρ1 O1 H1 st1 R1 rx h1 => ?_
  cases q : asI x.1 with
  | none => rw [q] at h1; exact h1.elim
  | some i =>
    rw [q] at h1
    have ex : x.1 = .int i := by
      revert q
      cases x.1 <;> simp [asI]
    rw [ex] at rx
    exact ⟨i, rep_int rx, h1 O1 H1 (some i) st1 R1 rfl⟩
theorem SimO.bind {ta : TO} {ma : MO} (ha : SimO w W ta ma) {F : Fr} {O : Av} {ρ : En} {σ : St} {H : Hp} (hw : F.w = w) (R : Rel F O ρ σ H) {α β : Type} {RA : En → Av → Hp → β → α → Prop} {Q : β → Hp → Prop} {f : Option Int → En → Rs α}
    (h : Hold F W O σ H RA Q ((ma ρ).bind f)) {k : Option Int → Hp → Prop}
    (hk : ∀ (x : Option Int) (ρ1 : En) (O1 : Av) (H1 : Hp), Step O H O1 H1 → Rel F O1 ρ1 σ H1 → Hold F W O σ H RA Q (f x ρ1) → k x H1) : ta σ H k := by
  refine ha F O ρ σ H k hw R ?_
  cases e : ma ρ with
  | ok x ρ1 =>
    rw [e] at h
    intro O1 H1 v st R1 rv
    have rv : v = x := rv
    subst rv
    exact hk v ρ1 O1 H1 st R1 h
  | exc x ρ1 =>
    rw [e] at h
    exact fun O1 H1 cls d st R1 xa => h O1 H1 cls d st R1 xa
  | stuck =>
    rw [e] at h
    exact h
def cutD (xs : List D) (lo hi : Option Int) : List D := (xs.drop (HT.sIx xs.length 0 lo)).take (HT.sIx xs.length xs.length hi - HT.sIx xs.length 0 lo)
def slD (x : D) (lo hi : Option Int) : Option Vl := match x with
  | .lst ds => some (.lst (cutD ds lo hi), true)
  | .tup ds => some (.tup (cutD ds lo hi), false)
  | .str z => if z.length ≤ sizeLine then some (dS (cutS z lo hi)) else none
  | _ => none
def mSl (m : ME) (lo hi : MO) : ME := fun ρ => (m ρ).bind fun x ρ1 => (lo ρ1).bind fun a ρ2 => (hi ρ2).bind fun b ρ3 => lift (slD x.1 a b) ρ3
theorem RepL.drop {O : Av} {H : Hp} : ∀ {ds : List D} {vs : List V} (n : Nat), RepL w O H ds vs → RepL w O H (ds.drop n) (vs.drop n)
  | ds, vs, 0, h => h
  | [], vs, n + 1, h => by
    simp only [RepL] at h
    subst h
    simp [RepL]
  | d :: ds, vs, n + 1, h => by
    simp only [RepL] at h
    obtain ⟨v, vs', rfl, _, h2⟩ := h
    exact RepL.drop n h2
theorem RepL.take {O : Av} {H : Hp} : ∀ {ds : List D} {vs : List V} (n : Nat), RepL w O H ds vs → RepL w O H (ds.take n) (vs.take n)
  | ds, vs, 0, h => by simp [RepL]
  | [], vs, n + 1, h => by
    simp only [RepL] at h
    subst h
    simp [RepL]
  | d :: ds, vs, n + 1, h => by
    simp only [RepL] at h
    obtain ⟨v, vs', rfl, h1, h2⟩ := h
    simp only [List.take_succ_cons, RepL]
    exact ⟨v, _, rfl, h1, RepL.take n h2⟩
theorem RepL.cut {O : Av} {H : Hp} {ds : List D} {vs : List V} (h : RepL w O H ds vs) (lo hi : Option Int) : RepL w O H (cutD ds lo hi) (cutV vs lo hi) := by
  unfold cutD cutV
  rw [h.length]
  exact (h.drop _).take _
def rSlAll (K : PySem.W.Frag) : V → Option Int → Option Int → Hp → VK → Prop := fun x lo hi H Q => rSlL K x lo hi H Q ∨ rSlA K x lo hi H Q ∨ rSlS x lo hi H Q
theorem sl_all : SlR X (rSlAll X.K) := sl_list.or (sl_tupA.or sl_str)
theorem pm_slice (hK : w.K = X.K) {lo hi : Option Expr} {ml mh : MO} (he : PM X w W e m) (hl : PMO X w W lo ml) (hh : PMO X w W hi mh) : PM X w W (.Subscript e (.Slice lo hi none p2) pos) (mSl m ml mh) := by
  obtain ⟨te, pe, se⟩ := he
  obtain ⟨tl, pl, sl⟩ := hl
  obtain ⟨th, ph, sh⟩ := hh
  refine ⟨_, pe_slice sl_all pe pl ph, fun F O ρ σ H Q hw R hh => ?_⟩
  subst hw
  refine se.bind rfl R hh fun x v ρ1 O1 H1 st1 R1 rx h1 => ?_
  refine sl.bind rfl R1 (h1.laterV st1) fun a ρ2 O2 H2 st2 R2 h2 => ?_
  refine sh.bind rfl R2 (h2.laterV st2) fun b ρ3 O3 H3 st3 R3 h3 => ?_
  have rx := Rep.step (st2.trans st3) _ _ rx
  cases q : slD x.1 a b with
  | none => rw [q] at h3; exact h3.elim
  | some z =>
    rw [q] at h3
    have k := Hold.go h3 st3 R3
    unfold slD at q
    split at q
    · rename_i ds ey
      rw [ey] at rx
      cases q
      simp only [Rep] at rx
      obtain ⟨c, vs, rfl, g1, g2⟩ := rx
      exact .inl ⟨c, vs, rfl, hK ▸ sl_of_rep g1, fun p hp => k.newL (g2.cut a b) hp⟩
    · rename_i ds ey
      rw [ey] at rx
      cases q
      have rx' := rx
      simp only [Rep] at rx
      obtain ⟨c, vs, rfl, g1, g2⟩ := rx
      refine .inr (.inl ⟨c, vs, rfl, hK ▸ sq_of_rep g1, fun hz => ?_, fun _ p hp => k.newT R3.dom (g2.cut a b) hp⟩)
      have e0 : cutD ds a b = ds := by
        unfold cutD
        rw [← g2.length, hz.1, hz.2, g2.length]
        simp
      rw [e0] at k
      exact k.val rx'
    · rename_i z ey
      rw [ey] at rx
      split at q
      · rename_i hz
        cases q
        exact .inr (.inr ⟨z, rep_str rx, hz, k.str⟩)
      · cases q
    · cases q

/-! ### isinstance -/
inductive Ty where
  | b (n : String) | o (c : Nat)
def tyD : D → Ty
  | .non => .b "NoneType"
  | .bl _ => .b "bool"
  | .int _ => .b "int"
  | .str _ => .b "str"
  | .tup _ => .b "tuple"
  | .lst _ => .b "list"
  | .dct _ _ => .b "dict"
  | .obj c _ => .o c
  | .scr _ => .b "list"
  | .cls _ => .b "type"
  | .exn _ _ _ => .b "exception"
  | .set _ => .b "set"
  | .dkf _ _ => .b "dict"
  | .dkt _ _ => .b "dict"
  | .rcd c _ _ => .o c
  | .lam _ => .b "function"
def Ty.v (w : Wd) : Ty → Value
  | .b n => .type n
  | .o c => .ref (w.cl c)
/-- what of the classes must be known -/
structure ClsOk (w : Wd) (n : Nat) : Prop where
  sc : ∀ c, c < n → SlX.SCls w.K (w.cl c)
  si : ∀ c, c < n → SlX.SIsi w.K (w.cl c)
def isT (n : Nat) (ans : Ty → Option Bool) (t : Ty) : Option Vl := match t with
  | .b t => (ans (.b t)).map dB
  | .o c => if c < n then (ans (.o c)).map dB else none
def isD (n : Nat) (ans : Ty → Option Bool) (d : D) : Option Vl := match d with
  | .cls _ => none
  | .exn _ _ _ => none
  | .set _ => none
  | .dkf _ _ => none
  | .dkt _ _ => none
  | .rcd _ _ _ => none
  | .lam _ => none
  | d => isT n ans (tyD d)
def rIsA (K : PySem.W.Frag) (u : Value) : List V → Hp → VK → Prop := fun xs H Q => rIsi K xs H Q ∨ SlX.rIsiSl K u xs H Q
theorem call_isA (u : Value) : CallR X (.builtin "isinstance") (rIsA X.K u) := call_isi.or (SlX.call_isiSl u)
theorem isi_core {O : Av} {H : Hp} {n : Nat} {ans : Ty → Option Bool} {u : Value} {cv : V} {Q : VK} {d : D} {v : V} {z : Vl} (cok : ClsOk w n) (hcv : ClsV cv u) (hans : ∀ t b, ans t = some b → PySem.W.kitOne w.K (t.v w) u = some b) (h : Rep w O H d v) (e : isD n ans d = some z) (k : Go w O H z Q) : rIsA w.K u [v, cv] H Q := by
  have base : ∀ {t : String} {b : Bool}, TyX w.K H v (.type t) → ans (.b t) = some b → Go w O H (dB b) Q → rIsA w.K u [v, cv] H Q := fun {t b} ty ea kk => .inl ⟨v, cv, _, u, b, rfl, hcv, ty, hans _ b ea, kk.bl⟩
  unfold isD at e
  have go : ∀ {t : String}, (ans (.b t)).map dB = some z → TyX w.K H v (.type t) → rIsA w.K u [v, cv] H Q := fun {t} e ty => by
    cases q : ans (.b t) with
    | none => rw [q] at e; cases e
    | some b =>
      rw [q] at e
      cases e
      exact base ty q k
  cases d with
  | non => simp only [Rep] at h; subst h; exact go e (.base .non)
  | bl x => simp only [Rep] at h; subst h; exact go e (.base (.bl x))
  | int x => simp only [Rep] at h; subst h; exact go e (.base (.int x))
  | str x => simp only [Rep] at h; subst h; exact go e (.base (.str x))
  | tup ds =>
    simp only [Rep] at h
    obtain ⟨a, vs, rfl, h1 | ⟨o, its, n, h1, h2, _⟩, _⟩ := h
    · exact go e (.base (.tup h1.2))
    · exact go e (.kTuple h1 h2)
  | lst ds =>
    simp only [Rep] at h
    obtain ⟨a, vs, rfl, h1, _⟩ := h
    exact go e (.base (.lst h1.2))
  | scr ds =>
    simp only [Rep] at h
    obtain ⟨a, vs, rfl, ⟨o, h1⟩ | ⟨o, its, n, h1, h2, _⟩, _⟩ := h
    · exact go e (.base (.frz h1.2))
    · exact go e (.kList h1 h2)
  | dct ks ds =>
    simp only [Rep] at h
    obtain ⟨a, kvs, rfl, h1 | ⟨o, h1⟩, _⟩ := h
    · exact go e (.base (.dK h1.2))
    · exact go e (.fDict h1.2)
  | cls c => cases e
  | exn c ns ds => cases e
  | set xs => cases e
  | dkf ks ds => cases e
  | dkt ks ds => cases e
  | rcd c ns ds => cases e
  | lam k => cases e
  | obj c fs =>
    simp only [Rep] at h
    obtain ⟨a, dx, vs, rfl, hne, _, _, h1, h2, _⟩ := h
    have e : (if c < n then (ans (.o c)).map dB else none) = some z := e
    split at e
    · rename_i hc
      cases q : ans (.o c) with
      | none => rw [q] at e; cases e
      | some b =>
        rw [q] at e
        cases e
        refine .inr ⟨a, w.cl c, dx, _, cv, b, rfl, ?_, fun x hx => hcv.eq hx, .inr ⟨h1, h2⟩, cok.sc c hc, cok.si c hc, hans _ b q, k.bl⟩
        cases hcv with
        | ty n => rfl
        | own C => rfl
    · cases e
theorem sim_isi {n : Nat} {ans : Ty → Option Bool} {u : Value} {cv : V} {te : TE} (cok : ClsOk w n) (hcv : ClsV cv u) (hans : ∀ t b, ans t = some b → PySem.W.kitOne w.K (t.v w) u = some b) (se : Sim w W te m) : Sim w W (tCB (rIsA w.K u) (tCons te (tCons (tC cv) tNil))) (mOp1 (isD n ans) m) := fun F O ρ σ H Q hw R hh => by
  subst hw
  refine se.bind rfl R hh fun x v ρ1 O1 H1 st1 R1 rx h1 => ?_
  cases e : isD n ans x.1 with
  | none => rw [e] at h1; exact h1.elim
  | some z =>
    rw [e] at h1
    exact isi_core cok hcv hans rx e (h1.go st1 R1)
/-- isinstance(e, T), T a built-in class -/
theorem pm_isiB {n : Nat} {ans : Ty → Option Bool} {T : String} {x : Str} (hK : w.K = X.K) (cok : ClsOk w n) (hans : ∀ t b, ans t = some b → PySem.W.kitOne w.K (t.v w) (.type T) = some b) (hg : Gl X "isinstance") (hm : X.mg "isinstance" = none) (hgT : Gl X x) (hmT : X.mg x = none) (hvT : bootBuiltins x = some (.type T)) (he : PM X w W e m)
    (hnT : x ≠ "__name__" := by decide) (hdT : (x == ("__debug__" : Str)) = false := by decide) (hs : starEach [e, .Name x p2] X.env = (false, eval e X.env) :: starEach [.Name x p2] X.env := by rfl) (hs2 : starEach [.Name x p2] X.env = (false, eval (.Name x p2) X.env) :: starEach [] X.env := by rfl)
    (hpl : (backTo pos (starEach [.Name x p2] X.env)).any (·.1) = false := by rfl) : PM X w W (.Call (.Name "isinstance" p) [e, .Name x p2] [] pos) (mOp1 (isD n ans) m) := by
  obtain ⟨te, pe, se⟩ := he
  refine ⟨_, pe_callB (call_isA (.type T)) hg hm (by decide +kernel) (pa_cons pe (pa_cons (pe_bltn (v := .ty T) hgT hmT hvT rfl hnT hdT) pa_nil hs2) hs) (by decide) (by decide) hs hpl, ?_⟩
  rw [← hK]
  exact sim_isi cok (.ty T) hans se
/-! ### -x; in; is -/
end
end PM

namespace PM
open PySem L2

/-! ### a def's call, told by values -/
def fnN (f : Fn) (xs : List D) : Option Vl := match f none xs with
  | .ret z none => some z
  | _ => none
def isObj (c : Nat) : D → Bool
  | .obj c' _ => c' == c
  | _ => false
/-- a def that is a method: its place, how many arguments, how deep, what it is worth -/
def MthOk (P : Program) (wo : World) (K : PySem.W.Frag) (mg : Str → Option Value) (base : Heap) (w : Wd) (g : Addr) (n j : Nat) (f : Fn) : Prop := FnR P wo K mg base CX0 j g (spOf w n f)
/-! ### e.f, a slot -/
def SlotsOk (w : Wd) (f : Str) (ix : Nat → Option Nat) : Prop := ∀ c i, ix c = some i → SlX.SCls w.K (w.cl c) ∧ ∃ p, SlX.Slot1 w.K (w.cl c) f p i
section
variable {w : Wd} {W : WX} {X : Cx} {pos pos' apos p : Pos} {e e' o : Expr} {es : List Expr} {m m' : ME} {mr : MA} {f : Str}
/-! ### e.f, a property; e.m(..) -/
structure PropOk (w : Wd) (c : Nat) (f : Str) (g : Addr) : Prop where
  sc : SlX.SCls w.K (w.cl c)
  ex : ∃ p, PySem.W.findIn w.K (.ref (w.cl c)) f = some (some (.ref p)) ∧ PySem.W.specialIn w.K (.ref p) "__get__" = some (some (.builtin "property.__get__")) ∧ PySem.W.takesIn w.K (.ref p) = some true ∧ ∃ rest, PySem.W.recIn w.K p "property" = some (.ref g :: rest)
structure MethOk (w : Wd) (c : Nat) (f : Str) (g : Addr) : Prop where
  sc : SlX.SCls w.K (w.cl c)
  mt : Meth w.K (w.cl c) f g
def mMeth (c : Nat) (fn : Fn) (m : ME) (mr : MA) : ME := fun ρ => (m ρ).bind fun x ρ1 => if isObj c x.1 = true then (mr ρ1).bind fun xs ρ2 => lift (fnN fn (x.1 :: xs)) ρ2 else .stuck
/-! ### operators of one's own -/
def orD (f g : D → D → Option Vl) (x y : D) : Option Vl := match f x y with
  | some z => some z
  | none => g x y
theorem Op2.or {r r' : R2} {f g : D → D → Option Vl} (h : Op2 w r f) (h' : Op2 w r' g) : Op2 w (fun x y H Q => r x y H Q ∨ r' x y H Q) (orD f g) := fun O H x y z vx vy Q dm e hx hy k => by
  unfold orD at e
  split at e
  · rename_i z' q
    cases e
    exact .inl (h O H x y z vx vy Q dm q hx hy k)
  · exact .inr (h' O H x y z vx vy Q dm e hx hy k)
structure OpOk (w : Wd) (c : Nat) (nm : Str) (g : Addr) : Prop where
  sf : PySem.W.selfFirst w.K (w.cl c) = true
  at_ : PySem.W.findIn w.K (.ref (w.cl c)) nm = some (some (.ref g))
  fn : PySem.W.isFn w.K (.ref g) = true
end
end PM

namespace PM
open PySem PySem.Spec PyProof.Rows PySem.W

section
variable {prog : Program} {w : World} {A : Around} {E : Value → Shared → Prop} {s : Shared} {K : Frag} {x C L f : Addr} {h₀ : Heap} {m : Str → Option Value} {ox : Obj} {od : Option Obj} {b tb : Value}
end
end PM
namespace PM
open PySem L2
/-! ### ==, != with an instance on the left -/
inductive TyR (K : PySem.W.Frag) (H : Hp) : V → Value → Prop where
  | x {v : V} {t : Value} (h : TyX K H v t) : TyR K H v t
  | ins {b C dy : Addr} {ws : List (Option V)} (h : SlX.Slt H b C dy ws) : TyR K H (.ref b) (.ref C)
theorem TyR.looks {X : Cx} {pins : List (Addr × Obj)} {σ : L2.St} {H : Hp} {s : Shared} {v : V} {t u : Value} (I : Inv X pins σ H s) (h : TyR X.K H v t) (r : RelV v u) : PySem.W.Looks (model X.prog X.w) s.heap (typeOf u) t := by
  cases h with
  | x h =>
    obtain ⟨P, Z, p, _⟩ := kit_of I r h
    exact Z.ty _ _ I.kIn p
  | ins h =>
    cases r
    obtain ⟨sl, od, _, J, _⟩ := SlX.slt_inst I h
    exact J.type
section
variable {X : Cx} {C g : Addr} {sp : Sp} {n : Nat}
end
structure EqOk (w : Wd) (c : Nat) (g : Addr) : Prop where
  at_ : PySem.W.findIn w.K (.ref (w.cl c)) "__eq__" = some (some (.ref g))
  fn : PySem.W.isFn w.K (.ref g) = true
  ne : PySem.W.findIn w.K (.ref (w.cl c)) "__ne__" = some (some (.builtin "object.__ne__"))
  mr : PySem.W.mroIn w.K (w.cl c) (.type "object") = some true
  nf : ∀ t ∈ ["NoneType", "bool", "int", "str", "tuple", "list", "dict"], PySem.W.notFirst w.K (w.cl c) (.type t) = true
def flatR (c : Nat) : D → Bool
  | .non => true
  | .bl _ => true
  | .int _ => true
  | .str _ => true
  | .tup _ => true
  | .lst _ => true
  | .dct _ _ => true
  | .obj c' _ => c' == c
  | _ => false
def eqO (c : Nat) (f : Fn) (x y : D) : Option Vl := if isObj c x = true ∧ flatR c y = true then fnN f [x, y] else none
section
variable {w : Wd} {W : WX} {X : Cx} {pos : Pos} {e e' : Expr} {m m' : ME} {c n : Nat} {g : Addr} {fn : Fn}
end
end PM

namespace PM
open PySem PySem.Spec PyProof.Rows L2

/-! ### an instance that is being made: its slots -/
def putD : Nat → D → List (Option D) → List (Option D)
  | 0, d, [] => [some d]
  | 0, d, _ :: xs => some d :: xs
  | i + 1, d, [] => none :: putD i d []
  | i + 1, d, x :: xs => x :: putD i d xs
theorem putS_cons {i : Nat} {v : V} {x : Option V} {vs : List (Option V)} : SlX.putS (i + 1) v (x :: vs) = x :: SlX.putS i v vs := by
  unfold SlX.putS
  simp only [List.length_cons, List.cons_append, List.set_cons_succ, Nat.add_sub_add_right]
theorem putS_nil {i : Nat} {v : V} : SlX.putS (i + 1) v [] = none :: SlX.putS i v [] := by
  unfold SlX.putS
  simp [List.replicate_succ]
theorem putS_zero {v : V} {x : Option V} {vs : List (Option V)} : SlX.putS 0 v (x :: vs) = some v :: vs := by
  unfold SlX.putS
  simp
theorem RepO.put {w : Wd} {O : Av} {H : Hp} {d : D} {v : V} (h : Rep w O H d v) : ∀ (i : Nat) (ds : List (Option D)) (vs : List (Option V)), RepO w O H ds vs → RepO w O H (putD i d ds) (SlX.putS i v vs)
  | 0, [], vs, e => by
    cases (show vs = [] from e)
    exact ⟨v, [], rfl, h, rfl⟩
  | 0, x :: ds, vs, e => by
    cases x with
    | none =>
      obtain ⟨vs', rfl, e⟩ := e
      rw [putS_zero]
      exact ⟨v, vs', rfl, h, e⟩
    | some y =>
      obtain ⟨u, vs', rfl, _, e⟩ := e
      rw [putS_zero]
      exact ⟨v, vs', rfl, h, e⟩
  | i + 1, [], vs, e => by
    cases (show vs = [] from e)
    rw [putS_nil]
    exact ⟨_, rfl, RepO.put h i [] [] rfl⟩
  | i + 1, x :: ds, vs, e => by
    cases x with
    | none =>
      obtain ⟨vs', rfl, e⟩ := e
      rw [putS_cons]
      exact ⟨_, rfl, RepO.put h i ds vs' e⟩
    | some y =>
      obtain ⟨u, vs', rfl, h1, e⟩ := e
      rw [putS_cons]
      exact ⟨u, _, rfl, h1, RepO.put h i ds vs' e⟩
def allS : List (Option D) → Option (List D)
  | [] => some []
  | none :: _ => none
  | some d :: ds => (allS ds).map fun xs => d :: xs
theorem RepO.all {w : Wd} {O : Av} {H : Hp} : ∀ (ds : List (Option D)) (xs : List D) (vs : List (Option V)), RepO w O H ds vs → allS ds = some xs → ∃ us : List V, vs = us.map some ∧ RepL w O H xs us
  | [], xs, vs, h, e => by
    cases e
    exact ⟨[], h, by simp only [RepL]⟩
  | none :: ds, xs, vs, h, e => by cases e
  | some d :: ds, xs, vs, ⟨v, vs', e1, h1, h2⟩, e => by
    have e : (allS ds).map (fun xs => d :: xs) = some xs := e
    cases q : allS ds with
    | none => rw [q] at e; cases e
    | some ys =>
      rw [q] at e
      cases e
      obtain ⟨us, e2, h3⟩ := RepO.all ds ys vs' h2 q
      exact ⟨v :: us, by rw [e1, e2]; rfl, by simp only [RepL]; exact ⟨v, us, rfl, h1, h3⟩⟩
def fldS (i : Nat) (ix : Nat) (d : D) (ρ : En) : Option En := match muOf i ρ with
  | some (s, .ins c fs) => some (ρ.set i (s.put (.ins c (putD ix d fs))))
  | _ => none
structure SetOk (w : Wd) (c : Nat) (f : Str) (ix : Nat) : Prop where
  sc : SlX.SCls w.K (w.cl c)
  sl : ∃ p, SlX.Slot1 w.K (w.cl c) f p ix
def clsAt (i c : Nat) (ρ : En) : Bool := match muOf i ρ with
  | some (_, .ins c' _) => c' == c
  | _ => false
section
variable {w : Wd} {W : WX} {X : Cx} {pos pos' p : Pos} {e : Expr} {m : ME} {x f : Str}
theorem slH_mut {O : Av} {ρ ρ1 : En} {σ : L2.St} {H : Hp} {F : Fr} {i ix c : Nat} {d : D} {v : V} (R : Rel F O ρ σ H) (hc : clsAt i c ρ = true) (h : Rep F.w O H d v) (e : fldS i ix d ρ = some ρ1) :
    ∃ a dx vs, σ[i]? = some (some (.ref a)) ∧ SlX.Slt H a (F.w.cl c) dx vs ∧ Rel F O ρ1 σ (SlX.slH H a (F.w.cl c) dx (SlX.putS ix v vs)) ∧ Step O H O (SlX.slH H a (F.w.cl c) dx (SlX.putS ix v vs)) := by
  unfold fldS at e
  unfold clsAt at hc
  cases q : muOf i ρ with
  | none => rw [q] at e; cases e
  | some sm =>
    obtain ⟨s, mu⟩ := sm
    rw [q] at e hc
    cases mu with
    | lst _ => cases e
    | dct _ _ => cases e
    | dkt _ _ => cases e
    | rcd _ _ _ => cases e
    | ins c' fs =>
      have hc : c' = c := by simpa using hc
      subst hc
      cases e
      obtain ⟨e1, g1⟩ := muOf_some q
      obtain ⟨a, ea, oa, dx, vs, h1, h2, h3, h4, h5⟩ := R.muAt e1 g1
      have hk : ∀ b o, b ≠ a → H b = some o → SlX.slH H a (F.w.cl c') dx (SlX.putS ix v vs) b = some o := fun b o n z => by
        by_cases hb : b = dx
        · subst hb
          rw [h4] at z
          cases z
          unfold SlX.slH
          rw [upd_ne h2, upd_same]
        · rw [SlX.slH_ne n hb]
          exact z
      have dm : ∀ b, H b ≠ none → SlX.slH H a (F.w.cl c') dx (SlX.putS ix v vs) b ≠ none := fun b z => by
        by_cases hb : b = a
        · subst hb
          unfold SlX.slH
          rw [upd_same]
          simp
        · cases z2 : H b with
          | none => exact absurd z2 z
          | some o => rw [hk b o hb z2]; simp
      have st : Step O H O (SlX.slH H a (F.w.cl c') dx (SlX.putS ix v vs)) := ⟨fun _ z => .inl z, fun b o n z => hk b o (fun z2 => n (by rw [z2]; exact oa)) z, dm⟩
      refine ⟨a, dx, vs, ea, .inr ⟨h1, h4⟩, ?_, st⟩
      refine R.mutG e1 g1 ea hk st (fun _ z => z) (fun b z => dm b (R.dom b z)) ⟨dx, SlX.putS ix v vs, ?_, h2, h3, hk _ _ h2 h4, RepO.put (Rep.step st d v h) ix fs vs (RepO.step st fs vs h5)⟩
      unfold SlX.slH
      rw [upd_same]
/-- self.f = e -/
def mSetF (i c ix : Nat) (m : ME) : MS := fun ρ => (m ρ).bind fun y ρ1 => if clsAt i c ρ1 = true then nxt (fldS i ix y.1 ρ1) else .stuck
theorem pms_fld {i c ix : Nat} (hK : w.K = X.K) (hp : SetOk w c f ix) (he : PM X w W e m) (hN : X.N[i]? = some x := by rfl) (hv : Vis X.env.scope x := by first | exact Or.inl rfl | exact Or.inr (Or.inl rfl) | exact Or.inr (Or.inr rfl)) (hd : (x == ("__debug__" : Str)) = false := by decide)
    (hcd : (x == ("__classdict__" : Str)) = false := by decide) (hs : swapsWith e (some (.Attribute (.Name x p) f pos')) pos.line X.env = pure false := by rfl) : PMS X w W (.Assign [.Attribute (.Name x p) f pos'] e pos) (mSetF i c ix m) := by
  obtain ⟨te, pe, se⟩ := he
  refine ⟨_, SlX.ps_sl (pe_var hN hv hd hcd) pe hs, fun F O ρ σ H E hw R hh => ?_⟩
  subst hw
  refine se.bindS rfl R hh fun y v ρ1 O1 H1 st1 R1 rv h1 => ?_
  obtain ⟨O2, s2, R2, r2, s3⟩ := VlAt.release st1 R1 R.doh rv
  split at h1
  · rename_i hc
    cases q : fldS i ix y.1 ρ1 with
    | none => rw [q] at h1; exact h1.elim
    | some ρ2 =>
      rw [q] at h1
      obtain ⟨a, dx, vs, ea, hsl, R3, s4⟩ := slH_mut R2 hc r2 q
      obtain ⟨hsc, pp, hs1⟩ := hp
      rw [hK] at hsc hs1
      exact ⟨.ref a, ea, a, _, dx, pp, vs, ix, rfl, hsl, hsc, hs1, h1 O2 σ _ (s3.trans s4) R3⟩
  · exact h1.elim

/-! ### self.f, self.g, .. = e -/
def fldsS (i c : Nat) : List Nat → List D → En → Option En
  | [], [], ρ => some ρ
  | j :: js, d :: ds, ρ => if clsAt i c ρ = true then (fldS i j d ρ).bind fun ρ1 => fldsS i c js ds ρ1 else none
  | _, _, _ => none
def fldsT (i c : Nat) (js : List Nat) (d : D) (ρ : En) : Option En := match d with
  | .tup ds => if ds.length = js.length then fldsS i c js ds ρ else none
  | _ => none
def mSetFs (i c : Nat) (js : List Nat) (m : ME) : MS := fun ρ => (m ρ).bind fun y ρ1 => nxt (fldsT i c js y.1 ρ1)
end

/-! ### the body of __init__: the new instance -/
def tRe (C : Addr) (t : TS) : TS := fun Z σ H => ∃ x dx, σ[(0 : Nat)]? = some (some (.ref x)) ∧ SlX.Slt H x C dx [] ∧ t Z σ (SlX.slH H x C dx [])
theorem pss_re {X : Cx} {body : List Stmt} {t : TS} {C : Addr} (h : PSs X body t) : PSs X body (tRe C t) := by
  refine ⟨fun pins s σ H Z I hh => ?_⟩
  obtain ⟨x, dx, _, hsl, q⟩ := hh
  obtain ⟨ne, sl, mA, e0, r0, n, qn⟩ := SlX.slt_at I hsl
  have I2 : Inv X pins σ (SlX.slH H x C dx []) s := SlX.inv_slot (h' := s.heap) (t' := s.toks) I hsl (fun _ _ _ _ z => z) (fun _ z => z) e0 r0
  exact h.run pins s σ _ Z I2 q
/-- what __init__ is worth: called with a new instance -/
def spIn (w : Wd) (c k : Nat) (f : Fn) : Sp := fun vs H Q E => ∃ x dx vs', vs = .ref x :: vs' ∧ SlX.Slt H x (w.cl c) dx [] ∧ spOf w k f vs (SlX.slH H x (w.cl c) dx []) Q E
section
variable {P : Program} {wo : World} {K : PySem.W.Frag} {mg : Str → Option Value} {base : Heap} {w : Wd}
end

/-! ### C(..) -/
def mkF (c : Nat) (f : Fn) (xs : List D) : Option Vl := match f (some (.ins c [])) xs with
  | .ret (.non, false) (some (.ins c' fs)) => if c' = c then (allS fs).map fun ds => (.obj c ds, false) else none
  | _ => none
/-- the class c, its __init__ -/
structure MkOk (P : Program) (wo : World) (K : PySem.W.Frag) (mg : Str → Option Value) (base : Heap) (w : Wd) (c n j : Nat) (f : Fn) : Prop where
  ex : ∃ g fd ps, ps.length = n + 1 ∧ Mk K (w.cl c) g ∧ FnOk P wo K mg base CX0 j g fd ps (spIn w c (n + 1) f) ∧ Binds K fd ps []
section
variable {w : Wd} {W : WX} {X : Cx} {pos p : Pos} {e : Expr} {es : List Expr} {mr : MA} {x : Str} {c n k : Nat} {fn : Fn}
theorem make_core {O : Av} {H : Hp} {xs : List D} {vs : List V} {z : Vl} {Q : VK} {E : XK} (dm : Dm O H) (hl : xs.length = n) (e : mkF c fn xs = some z) (rs : RepL w O H xs vs) (g : Go w O H z Q) :
    ∀ x dx, H x = none → H dx = none → dx ≠ x → spIn w c (n + 1) fn (V.ref x :: vs) (upd (upd H dx (.own x)) x (.ins (w.cl c) dx [])) (fun v H2 => v = .non ∧ Q (.ref x) H2) E := by
  intro x dx hx hdx ne
  refine ⟨x, dx, vs, rfl, .inl ⟨upd_same, rfl⟩, ?_⟩
  generalize hH : SlX.slH (upd (upd H dx (.own x)) x (.ins (w.cl c) dx [])) x (w.cl c) dx [] = H3
  have e1 : H3 x = some (SlX.SlO x (w.cl c) dx []) := by rw [← hH]; unfold SlX.slH; rw [upd_same]
  have e2 : H3 dx = some (.xd []) := by rw [← hH]; unfold SlX.slH; rw [upd_ne ne, upd_same]
  have gr : Grow H H3 := fun a o q => by
    have n1 : a ≠ x := fun z => by rw [z, hx] at q; cases q
    have n2 : a ≠ dx := fun z => by rw [z, hdx] at q; cases q
    rw [← hH, SlX.slH_ne n1 n2, upd_ne n1, upd_ne n2]
    exact q
  have nox : ¬ O x := fun q => dm x q hx
  have nodx : ¬ ins O x dx := fun q => q.elim (fun q => dm dx q hdx) ne
  refine ⟨ins O x, some (.ins c []), xs, fun a q => ?_, by rw [List.length_cons, rs.length, hl], ⟨x, vs, rfl, .inr rfl, ⟨dx, [], e1, ne, nodx, e2, rfl⟩, RepL.step (ins_step gr hx) xs vs rs⟩, ?_⟩
  · rcases q with q | q
    · exact gr.dom (dm a q)
    · rw [q, e1]; simp
  · unfold mkF at e
    split at e
    · rename_i c' fs hf
      rw [hf]
      split at e
      · rename_i hc
        subst hc
        refine ⟨rfl, fun H' v sy rf => ?_⟩
        obtain ⟨r1, a, ha, r2⟩ := rf
        simp only [Rep] at r1
        cases (show some (V.ref x) = some (.ref a) from ha)
        refine ⟨r1, ?_⟩
        obtain ⟨dx', us, h1, h2, h3, h4, h5⟩ := r2
        cases q : allS fs with
        | none => rw [q] at e; cases e
        | some ds =>
          rw [q] at e
          cases e
          obtain ⟨ws, rfl, h6⟩ := RepO.all fs ds us h5 q
          refine g (.ref x) H' (fun a o q => sy.kept a o (fun z => ?_) (gr a o q)) ?_
          · have z2 := z.2
            simp at z2
            rw [← z2, hx] at q
            cases q
          · show Rep w O H' (.obj c' ds) (.ref x)
            simp only [Rep]
            exact ⟨x, dx', ws, rfl, h2, nox, fun q => h3 (.inl q), h1, h4, RepL.step (mono_step fun a q => .inl q) ds ws h6⟩
      · cases e
    · cases e
def mMake (c : Nat) (f : Fn) (mr : MA) : ME := mCall (mkF c f) mr
/-- cls(..), cls a name that holds the class -/
def mMakeL (i c : Nat) (f : Fn) (mr : MA) : ME := fun ρ => match ρ[i]? with
  | some (.val (.cls c')) => if c' = c then mMake c f mr ρ else .stuck
  | _ => .stuck
def tMakeL (i : Nat) (C : Addr) (t : TE) : TE := fun σ H Q => σ[i]? = some (some (.ref C)) ∧ t σ H Q
/-! ### C.m(..), m a classmethod -/
structure CmOk (w : Wd) (c : Nat) (f : Str) (g : Addr) : Prop where
  ex : ∃ mc p, ClX.CRead w.K (w.cl c) mc ∧ ClX.CMet w.K (w.cl c) mc f p g
def mCm (c : Nat) (f : Fn) (mr : MA) : ME := mCall (fun xs => fnN f (.cls c :: xs)) mr
end
end PM

namespace PM
open PySem PySem.Spec PyProof.Rows L2

/-! ### x == (), x != () -/
def eq0 : D → D → Option Vl
  | .tup xs, .tup [] => some (dB xs.isEmpty)
  | _, _ => none
section
variable {w : Wd} {W : WX} {X : Cx} {pos p : Pos} {a b e : Expr} {ma mb m : ME} {mr : MA}
/-! ### a, b = x, y -/
def mPar (i j : Nat) (mr : MA) : MS := fun ρ => (mr ρ).bind fun xs ρ1 => match xs with
  | [x, y] => nxt ((setV i x ρ1).bind fun ρ2 => setV j y ρ2)
  | _ => .stuck
theorem pms_par {i j : Nat} {x y : Str} {px py pt : Pos} {kt k2 pt2} (hc : X.calm = true) (hN : X.N.Nodup) (hi : X.N[i]? = some x) (hj : X.N[j]? = some y) (hij : i ≠ j) (hx : X.env.scope.names.lookup x = some .local) (hy : X.env.scope.names.lookup y = some .local) (ha : PMA X w W [a, b] mr)
    (hw : swappedStores [.Tuple [.Name x px, .Name y py] kt pt] (.Tuple [a, b] k2 pt2) X.env = pure (some [x, y])) (hs : swapsWithSole [.Tuple [.Name x px, .Name y py] kt pt] (.Tuple [a, b] k2 pt2) pos.line X.env = pure false := by rfl) :
    PMS X w W (.Assign [.Tuple [.Name x px, .Name y py] kt pt] (.Tuple [a, b] k2 pt2) pos) (mPar i j mr) := by
  obtain ⟨t, pa, sa⟩ := ha
  refine ⟨_, ps_par hc hN hi hj hij hx hy pa hw hs, fun F O ρ σ H E hw R hh => ?_⟩
  subst hw
  refine sa.bindS rfl R hh fun xs vs ρ1 O1 H1 st1 R1 rs h1 => ?_
  split at h1
  · rename_i d1 d2
    simp only [RepL] at rs
    obtain ⟨v, _, rfl, r1, u, _, rfl, r2, rfl⟩ := rs
    cases q1 : setV i d1 ρ1 with
    | none => rw [q1] at h1; exact h1.elim
    | some ρ2 =>
      rw [q1] at h1
      have h1 : HoldS F W O1 H1 E (nxt (setV j d2 ρ2)) := h1
      cases q2 : setV j d2 ρ2 with
      | none => rw [q2] at h1; exact h1.elim
      | some ρ3 =>
        rw [q2] at h1
        exact ⟨v, u, rfl, h1 O1 _ H1 (Step.refl _ _) (setV_rel (setV_rel R1 r1 q1) r2 q2)⟩
  · exact h1.elim

/-! ### t[::-1] -/
section
variable {prog : Program} {wo : World} {A : Around} {E : Value → Shared → Prop} {s : Shared}
end
/-! ### d[k], d a dict of the module -/
end
end PM

/-! enumerate(tuple) -/
namespace PM
open PySem PySem.Spec PyProof.Rows L2
section
variable {prog : Program} {w : World} {A : Around} {E : Value → Shared → Prop} {s : Shared}
end
section
variable {K : PySem.W.Frag} {a : Addr} {xs : List V}
end
section
variable {w : Wd} {W : WX} {X : Cx} {pos p tpos : Pos} {e : Expr} {mr : MA} {elts : List Expr} {kk : Nat}
end
end PM

/-! the law's end where its promise holds under callers below whom no repr runs; the head's facts -/
namespace PM
open PySem PySem.Spec PyProof.Rows L2
section
variable {P : Program} {wo : World} {K : PySem.W.Frag} {mg mb : Str → Option Value} {Z : CXT} {k : Nat} {fa a : Addr} {fd : FuncData} {x : Str} {sp : Sp} {s1 : Shared} {us : List Value} {ns : List Int}
end
/-! ### the head's facts -/
/-- a def: where it stands, its name, its qualified name, its text -/
structure DfM where
  at_ : PySem.W.Frag → Addr
  name : Str
  qual : Str
  st : Stmt
def fnM (K : PySem.W.Frag) (a : Addr) : He.FnV := match K.lookup a with
  | some ⟨_, _, .func fd, _⟩ => some (fd.name, fd.qualname, fd.params, fd.body, fd.scope, fd.globals, fd.closure, fd.defaults, fd.builtins)
  | _ => none
def DfM.val (d : DfM) : He.FnV := some (d.name, d.qual, defArgs d.st, .stmts (defBody d.st), defScope d.st, mainGlobals, [], .none, builtinsNs)
def DfM.ok (K : PySem.W.Frag) (d : DfM) : Bool := PySem.W.keepIn K (.ref (d.at_ K)) && (match K.lookup (d.at_ K) with
  | some ⟨_, _, .func fd, _⟩ => PySem.W.codeIn K fd.code d.qual
  | _ => false)
theorem DfM.fun {K : PySem.W.Frag} {d : DfM} (e : fnM K (d.at_ K) = d.val) (c : d.ok K = true) : ∃ fd, Fun K d.name d.qual d.st (d.at_ K) fd := by
  obtain ⟨kp, c2⟩ := He.ba c
  unfold fnM at e
  cases q : K.lookup (d.at_ K) with
  | none =>
    rw [q] at c2
    cases c2
  | some o =>
    obtain ⟨oc, od, dt, osl⟩ := o
    rw [q] at c2 e
    cases dt with
    | func fd =>
      obtain ⟨n1, n2, n3, n4, n5, n6, n7, n8, n9, n10, n11, n12, n13, n14, n15⟩ := fd
      have e2 : (some (n1, n2, n3, n4, n5, n6, n7, n8, n15) : He.FnV) = d.val := e
      unfold DfM.val at e2
      simp only [Option.some.injEq, Prod.mk.injEq] at e2
      obtain ⟨h1, h2, h3, h4, h5, h6, h7, h8, h9⟩ := e2
      subst h1 h2 h3 h4 h5 h6 h7 h8 h9
      exact ⟨_, fun_mk q c2 kp⟩
    | _ => cases c2
abbrev Chk : Type := PySem.W.Frag → Bool
abbrev AlM : Type := (Bool × List He.FnV) × List (Option (List (Option (Str × Int))))
def obsM (cs : List Chk) (fn : List DfM) (ts : List He.Tab) (K : PySem.W.Frag) : AlM := (((cs.all fun c => c K) && fn.all fun d => d.ok K, fn.map fun d => fnM K (d.at_ K)), ts.map fun t => He.dicW K (t.1 K))
def valM (fn : List DfM) (ts : List He.Tab) (w : World) : AlM := ((true, fn.map DfM.val), ts.map fun t => some (He.keysIn w.params t.2))
def SaysM (cs : List Chk) (fn : List DfM) (ts : List He.Tab) (w : World) (K : PySem.W.Frag) : Prop := obsM cs fn ts K = valM fn ts w
def asM (g : Addr → Option Obj) : Nat → List Addr
  | 0 => [mainGlobals, cStatics]
  | n + 1 => He.growD g (asM g n)
def obsMG (n : Nat) (cs : List Chk) (fn : List DfM) (ts : List He.Tab) (g : Addr → Option Obj) : AlM := obsM cs fn ts (He.frG g (asM g n))
def hookM (n : Nat) (cs : List Chk) (fn : List DfM) (ts : List He.Tab) : PySem.W.Hook where
  α := AlM
  obs := fun s => obsMG n cs fn ts s.heap.get?
  val := fun w => valM fn ts w
  says := fun w h => ∃ K : PySem.W.Frag, K.In h ∧ SaysM cs fn ts w K
  of := fun _ _ e => ⟨_, He.frG_in, e⟩
  keeps := fun _ _ _ ⟨K, hK, c⟩ k => ⟨K, PySem.W.Frag.In.keeps hK k, c⟩
section
variable {cs : List Chk} {fn : List DfM} {ts : List He.Tab} {w : World} {K : PySem.W.Frag}
theorem SaysM.fact (c : SaysM cs fn ts w K) (i : Nat) {f : Chk} (h : cs[i]? = some f := by rfl) : f K = true := by
  have c1 := (He.ba (show ((cs.all fun c => c K) && fn.all fun d => d.ok K) = true from congrArg (fun z : AlM => z.1.1) c)).1
  exact List.all_eq_true.mp c1 f (List.mem_of_getElem? h)
theorem SaysM.def_ (c : SaysM cs fn ts w K) (i : Nat) {d : DfM} (h : fn[i]? = some d := by rfl) : ∃ fd, Fun K d.name d.qual d.st (d.at_ K) fd := by
  have c2 := (He.ba (show ((cs.all fun c => c K) && fn.all fun d => d.ok K) = true from congrArg (fun z : AlM => z.1.1) c)).2
  have e : fn.map (fun d => fnM K (d.at_ K)) = fn.map DfM.val := congrArg (fun z : AlM => z.1.2) c
  have e2 : (fn.map fun d => fnM K (d.at_ K))[i]? = (fn.map DfM.val)[i]? := by rw [e]
  rw [List.getElem?_map, List.getElem?_map, h] at e2
  exact DfM.fun (Option.some.inj e2) (List.all_eq_true.mp c2 d (List.mem_of_getElem? h))
theorem SaysM.tab (c : SaysM cs fn ts w K) (i : Nat) {t : He.Tab} (h : ts[i]? = some t := by rfl) : ∃ es n, KDict K w (t.1 K) es n := by
  have e : ts.map (fun t => He.dicW K (t.1 K)) = ts.map fun t => some (He.keysIn w.params t.2) := congrArg (fun z : AlM => z.2) c
  have e2 : (ts.map fun t => He.dicW K (t.1 K))[i]? = (ts.map fun t => some (He.keysIn w.params t.2))[i]? := by rw [e]
  rw [List.getElem?_map, List.getElem?_map, h] at e2
  exact He.dicW_ok (Option.some.inj e2)
end
end PM

/-! what the head looks at, as Bools over the written part; what follows -/
namespace PM
open PySem PySem.Spec PyProof.Rows L2
open PySem.W (Frag findIn specialIn takesIn typeIn slotIn recIn)
variable {K : Frag} {h : Heap} {mg : Str → Option Value} {w : Wd}
theorem b2 {a b : Bool} (h : (a && b) = true) : a = true ∧ b = true := Bool.and_eq_true_iff.mp h
def gloB (x : Str) : Chk := fun K => (He.Fa.glo x).ok K
def freeB (x : Str) : Chk := fun K => (He.Fa.free x).ok K
def intB (x : Str) (i : Int) : Chk := fun K => (He.Fa.int x i).ok K
def strB (x z : Str) : Chk := fun K => (He.Fa.str x z).ok K
def sclsB (C : Str) : Chk := fun K => PySem.W.plainGet K (He.ga K C) Str.empty && (PySem.W.isClsIn K (He.ga K C) && (PySem.W.plainOver K (He.ga K C) && He.eqO (findIn K (.ref (He.ga K C)) "__setattr__") (some (some (.builtin "object.__setattr__")))))
theorem sclsB_ok {C : Str} (h : sclsB C K = true) : SlX.SCls K (He.ga K C) := by
  obtain ⟨h1, h⟩ := b2 h
  obtain ⟨h2, h⟩ := b2 h
  obtain ⟨h3, h4⟩ := b2 h
  exact ⟨h1, h2, h3, He.eqO_ok h4⟩
def obB (a b : Option Bool) : Bool := decide (a = b)
def sisiB (C : Str) : Chk := fun K => He.eqO (findIn K (.ref (He.ga K C)) "__class__") (some (some (.builtin "object.__class__"))) && (He.eqO (specialIn K (.builtin "object.__class__") "__get__") (some (some (.builtin "getset_descriptor.__get__"))) &&
  (obB (takesIn K (.builtin "object.__class__")) (some true) && obB (PySem.W.mroIn K (He.ga K C) (.type "object")) (some true)))
theorem sisiB_ok {C : Str} (h : sisiB C K = true) : SlX.SIsi K (He.ga K C) := by
  obtain ⟨h1, h⟩ := b2 h
  obtain ⟨h2, h⟩ := b2 h
  obtain ⟨h3, h4⟩ := b2 h
  exact ⟨He.eqO_ok h1, He.eqO_ok h2, of_decide_eq_true h3, of_decide_eq_true h4⟩
def slotB (C f : Str) (i : Nat) : Chk := fun K => He.eqO (findIn K (.ref (He.ga K C)) f) (some (some (.ref (He.ma K (He.ga K C) f)))) && (He.eqO (specialIn K (.ref (He.ma K (He.ga K C) f)) "__get__") (some (some (.builtin "member_descriptor.__get__"))) &&
  (obB (takesIn K (.ref (He.ma K (He.ga K C) f))) (some true) && (decide (typeIn K (.ref (He.ma K (He.ga K C) f)) = some (.type "member_descriptor")) && (decide (slotIn K (He.ma K (He.ga K C) f) (He.ga K C) = some i) && decide (i < 1000)))))
theorem slotB_ok {C f : Str} {i : Nat} (h : slotB C f i K = true) : ∃ p, SlX.Slot1 K (He.ga K C) f p i := by
  obtain ⟨h1, h⟩ := b2 h
  obtain ⟨h2, h⟩ := b2 h
  obtain ⟨h3, h⟩ := b2 h
  obtain ⟨h4, h⟩ := b2 h
  obtain ⟨h5, h6⟩ := b2 h
  exact ⟨_, He.eqO_ok h1, He.eqO_ok h2, of_decide_eq_true h3, of_decide_eq_true h4, of_decide_eq_true h5, of_decide_eq_true h6⟩
/-- the first field of a record -/
def recAd (K : Frag) (p : Addr) (T : String) : Addr := match recIn K p T with
  | some (.ref g :: _) => g
  | _ => 0
def recB (K : Frag) (p : Addr) (T : String) : Bool := match recIn K p T with
  | some (.ref _ :: _) => true
  | _ => false
theorem recB_ok {p : Addr} {T : String} (h : recB K p T = true) : ∃ rest, recIn K p T = some (.ref (recAd K p T) :: rest) := by
  unfold recB at h
  unfold recAd
  split at h
  · rename_i g rest e
    rw [e]
    exact ⟨rest, rfl⟩
  · cases h
def cmAt (C f : Str) (K : Frag) : Addr := recAd K (He.ma K (He.ga K C) f) "classmethod"
def metAt (C f : Str) (K : Frag) : Addr := He.ma K (He.ga K C) f
def gloAt (x : Str) (K : Frag) : Addr := He.ga K x
def methB (C f : Str) : Chk := fun K => He.eqO (findIn K (.ref (He.ga K C)) f) (some (some (.ref (metAt C f K)))) && (PySem.W.isFn K (.ref (metAt C f K)) && PySem.W.keepIn K (.ref (metAt C f K)))
def mkB (C : Str) : Chk := fun K => (He.Fa.mkr C).ok K
theorem mkB_ok {C : Str} {c : Nat} (hc : w.cl c = He.ga K C) (h : mkB C K = true) : Mk K (w.cl c) (metAt C "__init__" K) := by
  rw [hc]
  exact He.mkr_ok h
def cfB (K : Frag) (C : Addr) (m : Str) (p : Addr) : Bool := match PySem.W.findCls K (.ref C) (.type "type") m with
  | some (.get (.builtin b) (.ref p') .none (.ref C')) => decide (b = "classmethod.__get__") && (decide (p' = p) && decide (C' = C))
  | _ => false
theorem cfB_ok {C p : Addr} {m : Str} (h : cfB K C m p = true) : PySem.W.findCls K (.ref C) (.type "type") m = some (.get (.builtin "classmethod.__get__") (.ref p) .none (.ref C)) := by
  unfold cfB at h
  split at h
  · rename_i b p' C' e
    obtain ⟨h1, h⟩ := b2 h
    obtain ⟨h2, h3⟩ := b2 h
    rw [e, of_decide_eq_true h1, of_decide_eq_true h2, of_decide_eq_true h3]
  · cases h
def cmB (C m : Str) : Chk := fun K => PySem.W.readsIn K (He.ga K C) (.type "type") && (He.eqO (specialIn K (.ref (He.ga K C)) "__getattribute__") (some (some (.builtin "type.__getattribute__"))) && (cfB K (He.ga K C) m (He.ma K (He.ga K C) m) && (recB K (He.ma K (He.ga K C) m) "classmethod" && PySem.W.fnIn K (cmAt C m K))))
theorem cmB_ok {C m : Str} {c : Nat} (hK : w.K = K) (hc : w.cl c = He.ga K C) (h : cmB C m K = true) : CmOk w c m (cmAt C m K) := by
  obtain ⟨h1, h⟩ := b2 h
  obtain ⟨h2, h⟩ := b2 h
  obtain ⟨h3, h⟩ := b2 h
  obtain ⟨h4, h5⟩ := b2 h
  subst hK
  exact ⟨.type "type", He.ma w.K (He.ga w.K C) m, by rw [hc]; exact ⟨h1, He.eqO_ok h2⟩, by rw [hc]; exact ⟨cfB_ok h3, recB_ok h4, h5⟩⟩
/-- isinstance: the answers -/
def kitV (K : Frag) (t : String ⊕ Str) : Value := match t with
  | .inl n => .type n
  | .inr C => .ref (He.ga K C)
def kitB (t u : String ⊕ Str) (b : Bool) : Chk := fun K => decide (PySem.W.kitOne K (kitV K t) (kitV K u) = some b)
theorem kitB_ok {t u : String ⊕ Str} {b : Bool} (h : kitB t u b K = true) : PySem.W.kitOne K (kitV K t) (kitV K u) = some b := of_decide_eq_true h
end PM

/-! in, not in; is, is not; all -/
namespace PM
open PySem PySem.Spec PyProof.Rows L2
section
variable {w : Wd} {W : WX} {X : Cx} {pos p : Pos} {a b e : Expr} {ma mb m : ME} {mr : MA}
end
end PM

/-! all, any of a list of bools; a tuple repeated; a list turned round -/
namespace PM
open PySem PySem.Spec PyProof.Rows L2
section
variable {w : Wd} {W : WX} {X : Cx} {pos p : Pos} {a b e : Expr} {ma mb m : ME} {mr : MA}
end
end PM

/-! one's own list turned round -/
namespace PM
open PySem PySem.Spec PyProof.Rows L2
section
variable {w : Wd} {W : WX} {X : Cx} {pos p : Pos} {x : Str}
end
end PM

/-! {}; a tuple repeated -/
namespace PM
open PySem PySem.Spec PyProof.Rows L2
section
variable {w : Wd} {W : WX} {X : Cx} {pos p : Pos} {a b : Expr} {ma mb : ME}
def mDct0 : ME := fun ρ => .ok (.dct [] [], true) ρ
theorem pm_dct0 : PM X w W (.Dict [] [] pos) mDct0 := by
  refine ⟨_, pe_dnewK, fun F O ρ σ H Q hw R hh => ?_⟩
  subst hw
  intro p hp
  have g := hh.go (Step.refl _ _) R
  exact g (.ref p) _ (Grow.new hp) ⟨p, .dct [] [], rfl, hp, rfl, [], upd_same, rfl, by simp only [List.map_nil, RepL]⟩
theorem RepL.rep {O : Av} {H : Hp} {ds : List D} {vs : List V} (h : RepL w O H ds vs) : ∀ n : Nat, RepL w O H (List.replicate n ds).flatten (List.replicate n vs).flatten
  | 0 => by simp [RepL]
  | n + 1 => by
    rw [List.replicate_succ, List.replicate_succ, List.flatten_cons, List.flatten_cons]
    exact RepL.append h (RepL.rep h n)
end
end PM

/-! in, not in: data of any depth in a tuple or a list -/
namespace PM
open PySem PySem.Spec PyProof.Rows L2
def rInT (K : PySem.W.Frag) (neg : Bool) : R2 := fun x y H Q => ∃ d ds, Dp K H x d ∧ (Dp K H y (.tuple ds) ∨ Dp K H y (.list ds)) ∧ SeqAt.shaped d = true ∧ PyData.canLayAll0 ds = true ∧ Q (.bl (if neg then !(ds.any fun z => PyData.eqv z d) else ds.any fun z => PyData.eqv z d)) H
def inA (neg : Bool) (x y : D) : Option Vl := (pyOk x).bind fun d => match toPy y with
  | some (.tuple ds) => if PyData.canLayAll0 ds = true then some (dB (if neg then !(ds.any fun z => PyData.eqv z d) else ds.any fun z => PyData.eqv z d)) else none
  | some (.list ds) => if PyData.canLayAll0 ds = true then some (dB (if neg then !(ds.any fun z => PyData.eqv z d) else ds.any fun z => PyData.eqv z d)) else none
  | _ => none
section
variable {w : Wd} {W : WX} {X : Cx} {pos p : Pos} {a b : Expr} {ma mb : ME}
theorem op_inT (hu : X.A.units + 65 < cLine) : OpR X (compareOp .In) (rInT X.K false) := by
  intro pins s σ H x y v u Q I rx ry h
  obtain ⟨d, ds, hd, he, sd, se, q⟩ := h
  obtain ⟨as, r1⟩ := Dp.reads I d x v hd rx
  rcases he with he | he
  · obtain ⟨bs, r2⟩ := Dp.reads I (.tuple ds) y u he ry
    exact SeqAt.in_tuple_reads r2 r1 se (SeqAt.canLay_of_shaped sd) (room_in_shaped sd hu) ⟨.bl _, H, I, rfl, q⟩
  · obtain ⟨bs, r2⟩ := Dp.reads I (.list ds) y u he ry
    exact SeqAt.in_list_reads r2 r1 se (SeqAt.canLay_of_shaped sd) (room_in_shaped sd hu) ⟨.bl _, H, I, rfl, q⟩
theorem op_notInT (hu : X.A.units + 65 < cLine) : OpR X (compareOp .NotIn) (rInT X.K true) := by
  intro pins s σ H x y v u Q I rx ry h
  obtain ⟨d, ds, hd, he, sd, se, q⟩ := h
  obtain ⟨as, r1⟩ := Dp.reads I d x v hd rx
  rcases he with he | he
  · obtain ⟨bs, r2⟩ := Dp.reads I (.tuple ds) y u he ry
    exact SeqAt.notIn_tuple_reads r2 r1 se (SeqAt.canLay_of_shaped sd) (room_in_shaped sd hu) ⟨.bl _, H, I, rfl, q⟩
  · obtain ⟨bs, r2⟩ := Dp.reads I (.list ds) y u he ry
    exact SeqAt.notIn_list_reads r2 r1 se (SeqAt.canLay_of_shaped sd) (room_in_shaped sd hu) ⟨.bl _, H, I, rfl, q⟩
theorem o2_inA (neg : Bool) : Op2 w (rInT w.K neg) (inA neg) := fun O H x y z vx vy Q dm e hx hy k => by
  unfold inA at e
  cases q : pyOk x with
  | none => rw [q] at e; cases e
  | some d =>
    rw [q] at e
    simp only [Option.bind_some] at e
    obtain ⟨a1, a2⟩ := pyOk_some q
    split at e
    · rename_i ds q2
      split at e
      · rename_i hc
        cases e
        exact ⟨d, ds, dp_of x vx d hx a1, .inl (dp_of y vy _ hy q2), a2, hc, k.bl⟩
      · cases e
    · rename_i ds q2
      split at e
      · rename_i hc
        cases e
        exact ⟨d, ds, dp_of x vx d hx a1, .inr (dp_of y vy _ hy q2), a2, hc, k.bl⟩
      · cases e
    · cases e
theorem room65 {k : Nat} {A : Around} (hr : Room k A) : A.units + 65 < cLine := by have := hr.un; omega
theorem pm_inA {k : Nat} (hK : w.K = X.K) (hr : Room k X.A) (ha : PM X w W a ma) (hb : PM X w W b mb) (hm : behindInMarks .In b = false := by rfl) : PM X w W (.Compare a [.In] [b] pos) (mOp2 (inA false) ma mb) := pm_cmp (op_inT (room65 hr)) (hK ▸ o2_inA false) ha hb hm
theorem pmt_inA {k : Nat} (hK : w.K = X.K) (hr : Room k X.A) (ha : PM X w W a ma) (hb : PM X w W b mb) (hm : behindInMarks .In b = false := by rfl) : PMT X w W (.Compare a [.In] [b] pos) (mTest (mOp2 (inA false) ma mb)) := pmt_cmp (op_inT (room65 hr)) (hK ▸ o2_inA false) ha hb hm
theorem pmt_notInA {k : Nat} (hK : w.K = X.K) (hr : Room k X.A) (ha : PM X w W a ma) (hb : PM X w W b mb) (hm : behindInMarks .NotIn b = false := by rfl) : PMT X w W (.Compare a [.NotIn] [b] pos) (mTest (mOp2 (inA true) ma mb)) := pmt_cmp (op_notInT (room65 hr)) (hK ▸ o2_inA true) ha hb hm
end
end PM

/-! ==, != of tuples whose items' comparison may run code: with either answer -/
namespace PM
open PySem PySem.Spec PyProof.Rows L2
open AutoSeq1 (wpAny_loadPart')
open GQ
section
variable {prog : Program} {wo : World} {A : Around} {R : Result → Shared → Prop}
end
end PM

/-! ==, != of tuples and lists that hold instances: where all items are equal -/
namespace PM
open PySem PySem.Spec PyProof.Rows L2
section
variable {X : Cx} {w : Wd} {c j : Nat} {g : Addr} {fn : Fn}
end
section
variable {w : Wd} {W : WX} {X : Cx} {pos : Pos} {e e' : Expr} {m m' : ME} {c j : Nat} {g : Addr} {fn : Fn}
end
end PM

namespace PM
open PySem
open Builtin Builtin.ObjectAttr
/-! ### a new instance, whoever's __new__ makes it -/
section
variable {prog : Program} {w : World} {A : Around} {E : Value → Shared → Prop} {R : Result → Shared → Prop} {hp : Heap} {g : Array GenState} {d : Drawn} {t : Nat} {os : OsState}
variable {nm q : Str} {C N : Addr} {bs bm bm0 : List Value} {hdct : Bool} {sn : List Str} {sub : List Value} {ab : Bool} {col : Option Bool} {dd : Option Addr} {k0 k1 k2 k3 k5 : Option Value} {B0 newId init0 : String}
/-- the class' line, as far as __new__ asks -/
structure LineF (B0 : String) (bm : List Value) : Prop where
  hB : bm.contains (.type B0) = true
  hA : bm.contains (.type "AttributeError") = false
  hN : bm.contains (.type "NameError") = false
theorem chk_new {M : Model} (F : ExcBaseFacts B0 newId init0 bm0) (L : LineF B0 bm) {rest : List Value} {Q : Unit → Shared → Prop} (hC : hp.get? C = some (excClassObj nm q C N bs bm hdct sn sub ab col dd k0 k1 k2 k3 k5 newId)) (fin : Q () ⟨hp, g, d, t, os⟩) : wpAny M A (checkBuiltinCall newId ⟨.ref C :: rest, []⟩) Q E ⟨hp, g, d, t, os⟩ := by
  have c1 : (Value.ref C :: bm).contains (.type B0) = true := by rw [List.contains_cons, L.hB, Bool.or_true]
  have c2 := F.noStar
  simp only [checkBuiltinCall, F.newSplit, F.newKind, F.newRow]
  repeat (first | refine wpAny_loadPart_at hC ?_ | (refine wpAny_isSubtype_exc hC ?_; rw [c1]) | refine wpAny_madeBy_exc hC ?_ | refine wpAny_staticBase_exc hC ?_ | simp only [bne_self_eq_false, Bool.false_eq_true, if_false] | wp_step)
  exact fin
theorem made_new (F : ExcBaseFacts B0 newId init0 bm0) (L : LineF B0 bm) {rest : List Value} (hC : hp.get? C = some (excClassObj nm q C N bs bm hdct sn sub ab col dd k0 k1 k2 k3 k5 newId)) (fin : R (.ok (.ret (.ref (hp.objs.size + 1)))) ⟨(hp.push (W.kdv_tup rest)).push (HandSPX.excO C hp.objs.size), g, d, t, os⟩) (hl : rest.length ≤ sizeLine) :
    codeAny (model prog w) A (.builtin newId ⟨.ref C :: rest, []⟩) R ⟨hp, g, d, t, os⟩ := by
  have c0 := F.ends
  have c1 : (Value.ref C :: bm).contains (.type B0) = true := by rw [List.contains_cons, L.hB, Bool.or_true]
  have c2 : (Value.ref C :: bm).contains (.type "AttributeError") = false := by rw [List.contains_cons, L.hA]; rfl
  have c3 : (Value.ref C :: bm).contains (.type "NameError") = false := by rw [List.contains_cons, L.hN]; rfl
  have hrest := hl
  refine codeAny_builtinAt F.entry ?_
  unfold Builtin.«BaseException.__new__»
  refine wpAt_bind ?_
  show wpAt _ _ _ (stack >>= _) _ _ _
  refine wpAt_bind (wpAt_stack fun p below => wpAt_of_wpAny ?_)
  wp_walk
  refine wpAt_of_wpAny ?_
  rw [F.owner]
  repeat (first | with_reducible refine wpAny_loadPart_at hC ?_ | with_reducible refine wpAny_madeHere_exc F.canon hC ?_ | (with_reducible refine wpAny_isSubtype_exc hC ?_; first | rw [c1] | rw [c2] | rw [c3]) | wp_step)
  show R _ _
  rw [Heap.size_push]
  exact fin
theorem typ_call (F : ExcBaseFacts B0 newId init0 bm0) (L : LineF B0 bm) {rest : List Value} {fI : Addr} {Q : Fin → Shared → Prop} (hC : hp.get? C = some (excClassObj nm q C N bs bm hdct sn sub ab col dd k0 k1 k2 k3 k5 newId)) (hi   : W.Looks (model prog w) hp (typeLookup (.ref C) "__init__") (some (.ref fI))) (hb : ∀ self, W.Looks (model prog w) hp (bindSpecial (.ref fI) self) (.ref fI, [self])) (hl : rest.length ≤ sizeLine)
    (fin : codeAny (model prog w) A (.call (.ref fI) ⟨.ref (hp.objs.size + 1) :: rest, []⟩) (fun r s' => match r with | .ok (.ret v) => v = .none ∧ Q (.done (.ret (.ref (hp.objs.size + 1)))) s' | .ok _ => False | .error e => E e s') ⟨(hp.push (W.kdv_tup rest)).push (HandSPX.excO C hp.objs.size), g, d, t, os⟩) :
    wpAny (model prog w) A (Builtin.«type.__call__» ⟨.ref C :: rest, []⟩) Q E ⟨hp, g, d, t, os⟩ := by
  repeat (first | with_reducible refine wpAny_madeBy_exc hC ?_ | with_reducible refine wpAny_loadPart_at hC ?_ | wp_step)
  refine codeAny_call_builtin_code (Code.quiet_builtin _ F.quiet) (chk_new F L hC (made_new F L hC ?_ hl))
  show wpAny _ _ _ _ _ _
  have k : ∀ c o, hp.get? c = some o → ((hp.push (W.kdv_tup rest)).push (HandSPX.excO C hp.objs.size)).get? c = some o := fun c o z => Heap.get?_push_of_some _ (Heap.get?_push_of_some _ z)
  have h1 := k _ _ hC
  have h2 : ((hp.push (W.kdv_tup rest)).push (HandSPX.excO C hp.objs.size)).get? (hp.objs.size + 1) = some (HandSPX.excO C hp.objs.size) := by heap_get
  have h3 : (Value.ref C :: bm).contains (.ref C) = true := by simp
  have i1 := hi.keeps k
  have b1 := (hb (.ref (hp.objs.size + 1))).keeps k
  unfold isInstance
  repeat (first | with_reducible refine wpAny_loadPart_at h2 ?_ | (with_reducible refine wpAny_isSubtype_exc h1 ?_; rw [h3]) | wp_step)
  show wpAny _ _ (typeLookup (.ref C) _) _ _ _
  refine i1.at (wpAny_holding (wpAny_bind (b1.at (wpAny_bind (wpAny_call (codeAny_mono fin fun r s' z => ?_))))))
  rcases r with e | (v | _ | _ | _) <;> first | exact z | exact z.elim | skip
  obtain ⟨rfl, z⟩ := z
  first | exact wpAny_pure (wpAny_pure z) | (wp_walk; exact z)
theorem call_new (F : ExcBaseFacts B0 newId init0 bm0) (L : LineF B0 bm) {rest : List Value} {fI : Addr} (hC : hp.get? C = some (excClassObj nm q C N bs bm hdct sn sub ab col dd k0 k1 k2 k3 k5 newId)) (hi   : W.Looks (model prog w) hp (typeLookup (.ref C) "__init__") (some (.ref fI))) (hb : ∀ self, W.Looks (model prog w) hp (bindSpecial (.ref fI) self) (.ref fI, [self])) (hl : rest.length ≤ sizeLine)
    (fin : codeAny (model prog w) (A.under (.builtin "type.__call__" ⟨.ref C :: rest, []⟩)) (.call (.ref fI) ⟨.ref (hp.objs.size + 1) :: rest, []⟩) (W.InitBack (hp.objs.size + 1) R) ⟨(hp.push (W.kdv_tup rest)).push (HandSPX.excO C hp.objs.size), g, d, t, os⟩) :
    codeAny (model prog w) A (.call (.ref C) ⟨rest, []⟩) R ⟨hp, g, d, t, os⟩ := by
  have f1 := tc_lookup
  have f2 := tc_bind (.ref C)
  have ty : (⟨hp, g, d, t, os⟩ : Shared).TypeIs (.ref C) "type" := ⟨_, hC, rfl⟩
  refine codeAny_of_tree ?_
  show wpAny _ _ (callAny (.ref C) _) _ _ _
  repeat (any_goals (first | assumption | with_reducible refine wpAny_loadPart_at hC ?_ | wp_step))
  refine ⟨rfl, codeAny_call_builtin_at (Code.quiet_builtin _ (by decide +kernel)) entry_typeCall (wpAny_check_type_call_sub hC (typ_call F L hC hi hb hl (codeAny_mono fin fun r s' z => ?_)))⟩
  rcases r with e | (v | _ | _ | _) <;> exact z
end
end PM

/-! an own exception whose __init__ says super().__init__(text), self.f = x: over any base -/
namespace PM
open PySem PySem.Spec PyProof.Rows PySem.W PySem.Calls
open Builtin Builtin.ObjectAttr
/-- own classes, then the base's line -/
def refsB (T : List Value) : List Value → Bool
  | .ref _ :: r => refsB T r
  | l => decide (l = T)
theorem refsB_cases (T : List Value) (l : List Value) (e : refsB T l = true) : (∃ c r, l = .ref c :: r ∧ refsB T r = true) ∨ l = T := by
  unfold refsB at e
  split at e
  · exact .inl ⟨_, _, rfl, e⟩
  · exact .inr (of_decide_eq_true e)
theorem refsB_has {T : List Value} (Y : String) : ∀ l : List Value, refsB T l = true → l.contains (.type Y) = T.contains (.type Y)
  | [], e => by
    rcases refsB_cases T [] e with ⟨_, _, q, _⟩ | q
    · cases q
    · rw [← q]
  | a :: r, e => by
    rcases refsB_cases T (a :: r) e with ⟨c, r', q, z⟩ | q
    · obtain ⟨q1, q2⟩ := List.cons.inj q
      subst q1
      subst q2
      have ih := refsB_has Y r z
      rw [List.contains_cons, ih]
      rfl
    · rw [q]
theorem refsB_lets {T : List Value} (hT : ∀ x : Value, refuseLoop x "__setattr__" T = pure ()) (x : Value) : ∀ l : List Value, refsB T l = true → refuseLoop x "__setattr__" l = pure ()
  | [], e => by
    rcases refsB_cases T [] e with ⟨_, _, q, _⟩ | q
    · cases q
    · rw [q]; exact hT x
  | a :: r, e => by
    rcases refsB_cases T (a :: r) e with ⟨c, r', q, z⟩ | q
    · obtain ⟨q1, q2⟩ := List.cons.inj q
      subst q1
      subst q2
      rw [refuseLoop_ref]
      exact refsB_lets hT x r z
    · rw [q]; exact hT x
section
variable {prog : Program} {w : World} {A : Around} {E : Value → Shared → Prop} {R : Result → Shared → Prop} {hp : Heap} {g : Array GenState} {d : Drawn} {t : Nat} {os : OsState} {K : Frag}
/-- self.f = v, the first one -/
theorem osaX {f : Str} {tk : Tok} {v : Value} {x C : Addr} {fv : Array Value} {cd : ClassData} (X : K.In hp) (ho : hp.get? x = some { cls := .ref C, data := .fields fv }) (hcd : clsIn K C = some cd) (lets : ∀ y : Value, refuseLoop y "__setattr__" cd.mro = pure ()) (hob : mroIn K C (.type "object") = some true) (hh : cd.hasDict = true) (no : findIn K (.ref C) f = some none)
    (fin : ∀ h' tk' dx, (∀ b o, b ≠ x → hp.get? b = some o → h'.get? b = some o) → hp.objs.size ≤ dx → dx ≠ x → h'.get? x = some { cls := .ref C, dict := some dx, data := .fields fv } → h'.Ns1 dx (fun y => if y = f then some v else none) → R (.ok (.ret .none)) ⟨h', g, d, tk', os⟩) :
    codeAny (model prog w) A (.call (.builtin "object.__setattr__") ⟨[.ref x, .str f tk, v], []⟩) R ⟨hp, g, d, t, os⟩ := by
  have J : InstAt hp x { cls := .ref C, data := .fields fv } C none := ⟨ho, rfl, rfl, trivial⟩
  have away : x ≠ hp.objs.size := Nat.ne_of_lt (Heap.lt_size ho)
  have isO : Looks (model prog w) hp (isInstance (.ref x) (.type "object")) true := J.type.andThen (looks_mroIn X hob)
  have S := PySem.F.store_object
  refine codeAny_call_builtin S.slot.plain S.entry (@check_slot (model prog w) _ _ ⟨hp, g, d, t, os⟩ "object.__setattr__" "object" "__setattr__" (.ref x) [.str f tk, v] [] _ S.kind S.split isO (S.args (.ref x) (.str f tk) v) ?_)
  have line : Looks (model prog w) hp (mroOf (.ref C)) cd.mro := (looks_clsIn X hcd).andThen .now
  have none3 : Looks (model prog w) hp (storeTaker? none) none := .now
  have dat : Looks (model prog w) hp (classData C) cd := looks_clsIn X hcd
  rw [osa_eq, refuse_eq]
  refine wpAny_bind (wpAny_bind (J.type.at (wpAny_bind (line.at ?_))))
  rw [lets]
  refine wpAny_pure (wpAny_bind (J.type.at (wpAny_bind ((looks_findIn X no).at (wpAny_bind (none3.at ?_))))))
  show wpAny _ _ (storeInOwnDict (.ref x) (.ref C) (.str f tk) f v false) _ _ _
  cases cd with
  | mk nm bs mro ns qn hd sn sb ab col del =>
    dsimp only at hh
    subst hh
    unfold storeInOwnDict ownDictForStores
    repeat (first | with_reducible refine HandSPX.store_in_new ?_ ?_ | with_reducible refine wpAny_loadPart_at ho ?_ | with_reducible refine dat.at ?_ | wp_step)
    · exact ⟨_, #[], _, (Heap.get?_update_ne _ _ _ _ (Ne.symm away)).trans (Heap.get?_push_at rfl rfl), rfl, fun e he => absurd he (by simp), fun _ => rfl⟩
    · intro h' tk' n1 same
      have ho2 : (hp.push { cls := .type "dict", data := .dict #[] }).get? x = some { cls := .ref C, data := .fields fv } := Heap.get?_push_of_some _ ho
      refine fin h' tk' hp.objs.size (fun b o hb hbo => ?_) (Nat.le_refl _) (Ne.symm away) ((same.2 x away).trans (Heap.get?_update_self _ ho2 rfl)) n1
      exact (same.2 b (Nat.ne_of_lt (Heap.lt_size hbo))).trans ((Heap.get?_update_ne _ _ _ _ hb).trans (Heap.get?_push_of_some _ hbo))
/-- what is known of a base's __init__ -/
structure IniF (B i : String) : Prop where
  plain : plainId i = true
  entry : entryFor table i = some Builtin.«BaseException.__init__»
  kind : builtinKind i = some .slot
  row : Manifest.signature? i = some ⟨.positional, "*", B, .self, [⟨"args", .varPos, false⟩]⟩
  star : (B != "*") = true
theorem iniF_of {B newId i : String} {bmB : List Value} (F : ExcBaseFacts B newId i bmB) : IniF B i := ⟨F.init.plain, F.initEntry, F.initKind, F.initRow, F.noStar⟩
theorem bound_init {M : Model} {B i newId : String} (F : IniF B i) {nm q : Str} {C N e : Addr} {oe : Obj} {bs bm : List Value} {hdct : Bool} {sn : List Str} {sub : List Value} {ab : Bool} {col : Option Bool} {dd : Option Addr} {k0 k1 k2 k3 k5 : Option Value} {rest : List Value} {Q : Unit → Shared → Prop}
    (hC : hp.get? C = some (excClassObj nm q C N bs bm hdct sn sub ab col dd k0 k1 k2 k3 k5 newId)) (he : hp.get? e = some oe) (hc : oe.cls = .ref C) (fin : Q () ⟨hp, g, d, t, os⟩) : wpAny M A (checkBoundCall i ⟨.ref e :: rest, []⟩) Q E ⟨hp, g, d, t, os⟩ := by
  have st := F.star
  simp only [checkBoundCall, F.kind, F.row]
  repeat (first | with_reducible refine wpAny_loadPart_at hC ?_ | (with_reducible refine wpAny_loadPart_at he ?_; rw [hc]) | wp_step)
  refine wpAny_onRaise ?_
  have ck : ∀ (x y : String) (k : Nat), Bind.check ⟨.positional, "*", B, .self, [⟨"args", .varPos, false⟩]⟩ x y k (List.map (fun z => z.fst) ({ pos := Value.ref e :: rest } : Args).kw) = pure () := fun x y k => check_star_args _ _ _ _ _ _
  rw [ck]
  exact wpAny_pure fin
/-- the base's __init__, bound, called -/
theorem call_mw {B i newId : String} {bm bs : List Value} {nm q : Str} {C N u e t0 : Addr} {hdct ab : Bool} {sn : List Str} {sub : List Value} {col : Option Bool} {dd : Option Addr} {k0 k1 k2 k3 k5 : Option Value} {xs : List Value} {Q : Value → Shared → Prop} (FB : IniF B i)
    (hC : hp.get? C = some (excClassObj nm q C N bs bm hdct sn sub ab col dd k0 k1 k2 k3 k5 newId)) (he : hp.get? e = some (HandSPX.excO C t0)) (hu : hp.get? u = some (kxs_mw i e)) (hl : xs.length ≤ sizeLine)
    (fin : ∀ h' t1, (∀ b o, b ≠ e → hp.get? b = some o → h'.get? b = some o) → h'.get? e = some (HandSPX.excO C t1) → Q .none ⟨h', g, d, t, os⟩) : wpAny (model prog w) A (call (.ref u) xs) Q E ⟨hp, g, d, t, os⟩ := by
  refine wpAny_call (codeAny_of_tree ?_)
  show wpAny _ A.in1 (callAny (.ref u) ⟨xs, []⟩) _ _ _
  simp only [callAny]
  refine wpAny_bind (wpAny_load hu ?_)
  simp only [kxs_mw, show (Value.type "method-wrapper" == Value.type "method" || Value.type "method-wrapper" == Value.type "builtin_function_or_method" || Value.type "method-wrapper" == Value.type "method-wrapper") = true by decide, if_true]
  refine KFB.if_so (by decide) (wpAny_bind (bound_init FB hC he rfl (wpAny_bind (wpAny_pure (wpAny_pure ?_)))))
  refine ⟨plainId_quiet FB.plain _, codeAny_builtin FB.entry ?_⟩
  rw [Around.under_plainId FB.plain _]
  wp_walk
  refine fin _ hp.objs.size (fun b o hb hbo => ?_) ?_
  · rw [Heap.get?_update_other _ _ (Ne.symm hb)]
    exact Heap.get?_push_of_some _ hbo
  · rw [Heap.get?_update_self _ (Heap.get?_push_of_some _ he) rfl]
    rfl
end
end PM

namespace PM
open PySem PySem.Spec PyProof.Rows PySem.W PySem.Calls
open Builtin Builtin.ObjectAttr
/-- the text of such an __init__ -/
structure SupSt where
  msg : Str
  fld : Str
  slf : Str
  par : Str
  j : Nat
  p0 : Pos
  p1 : Pos
  p2 : Pos
  p3 : Pos
  p4 : Pos
  p5 : Pos
  p6 : Pos
  p7 : Pos
  p8 : Pos
  p9 : Pos
abbrev SupSt.call (b : SupSt) : Expr := .Call (.Attribute (.Call (.Name "super" b.p0) [] [] b.p1) "__init__" b.p2) [.Constant (.str b.msg) b.j b.p3] [] b.p4
def SupSt.body (b : SupSt) : List Stmt := [.Expr b.call b.p5, .Assign [.Attribute (.Name b.slf b.p6) b.fld b.p7] (.Name b.par b.p8) b.p9]
/-- what the written part says of the class and its __init__ -/
structure SupK (prog : Program) (K : Frag) (C f cc cda : Addr) (B i newId : String) (bmB : List Value) (b : SupSt) (qual : Str) (params : Arguments) (scope : Scope) : Prop where
  cls : ∃ nm q N bs bm sn sub ab col dd k0 k1 k2 k3 k5, K.lookup C = some (excClassObj nm q C N bs bm true sn sub ab col dd k0 k1 k2 k3 k5 newId) ∧ refsB bmB bm = true
  fn : ∃ (oc : Value) (od : Option Addr) (kV doc pm : Value) (an : Option Addr) (ct : Value) (osl : Array (Option Value)), K.lookup f = some ⟨oc, od, .func (ksFn "__init__" qual params b.body scope .none kV doc pm an (.ref cda) ct cc), osl⟩ ∧ (∀ s us, us.length = 2 → BindsTo s (ksFn "__init__" qual params b.body scope .none kV doc pm an (.ref cda) ct cc) ⟨us, []⟩ ([b.slf, b.par].zip us))
  cd : codeIn K (.ref cda) qual = true
  code : ∃ ccl cdd vs ccs file tf, K.lookup cda = some ⟨ccl, cdd, .fields vs, ccs⟩ ∧ vs[2]? = some (.str file tf) ∧ ((prog.main.file : Str) == file) = true
  cell : ∃ cl cld csl, K.lookup cc = some ⟨cl, cld, .cell (some (.ref C)), csl⟩
  head : (params.posonlyargs ++ params.args).head?.map (·.arg) = some b.slf
  ne : b.slf ≠ b.par
  kind : scope.kind = .function
  co : scope.isCoroutine = false
  gen : scope.isGenerator = false
  nocell : ∀ x ∈ scope.names, x.2 ≠ .cell
  ksup : scope.names.lookup ("super" : Str) = some .globalImplicit
  kcls : scope.names.lookup ("__class__" : Str) = some .free
  kslf : scope.names.lookup b.slf = some .local
  kpar : scope.names.lookup b.par = some .local
  top : (prog.main.scope.names.lookup ("super" : Str)).isSome = false
  opq : nsIn K cStatics "thirdparty.any" = some none
  sup : ks_superIn K C C "__init__" = some (some (.builtin i))
  subB : subIn K (.ref C) (.type B) = some true
  mroC : mroIn K C (.ref C) = some true
  mroO : mroIn K C (.type "object") = some true
  sa : findIn K (.ref C) "__setattr__" = some (some (.builtin "object.__setattr__"))
  nof : findIn K (.ref C) b.fld = some none
  hi : ∀ L, interactive (ksEnv qual scope L f (.ref cda) cc) = false
  hs1 : ∀ L, swapsWith b.call none b.p5.line (ksEnv qual scope L f (.ref cda) cc) = pure false
  hs2 : ∀ L, swapsWith (.Name b.par b.p8) (some (.Attribute (.Name b.slf b.p6) b.fld b.p7)) b.p9.line (ksEnv qual scope L f (.ref cda) cc) = pure false
  hev : ∀ L, ∃ pl : Sem Bool, eval b.call (ksEnv qual scope L f (.ref cda) cc) = (do
      let ov ← attributeBase (.Call (.Name "super" b.p0) [] [] b.p1) "__init__" (ksEnv qual scope L f (.ref cda) cc) (eval (.Call (.Name "super" b.p0) [] [] b.p1) (ksEnv qual scope L f (.ref cda) cc))
      standAt b.p2.atName
      let (fv, first) ← holding [ov] (getMethod ov "__init__" pl)
      callWith b.p4 fv first (backTo b.p4 (starEach [.Constant (.str b.msg) b.j b.p3] (ksEnv qual scope L f (.ref cda) cc))) [])
  d1 : (b.slf == ("__debug__" : Str)) = false
  d2 : (b.par == ("__debug__" : Str)) = false
section
variable {prog : Program} {w : World} {A : Around} {R : Result → Shared → Prop} {K : Frag} {C f cc cda : Addr} {B i newId : String} {bmB : List Value} {b : SupSt} {qual : Str} {params : Arguments} {scope : Scope}
theorem run_sup (T : SupK prog K C f cc cda B i newId bmB b qual params scope) (KF : KxsFacts B i) (FB : IniF B i) (lets : ∀ y : Value, refuseLoop y "__setattr__" bmB = pure ()) {s : Shared} {a t0 : Addr} {u : Value} {mg mb : Str → Option Value} (hdp : A.depth < recursionLimit) (hKa : K.lookup a = none) (X : K.In s.heap)
    (lim : s.heap.NoLimit) (hg : s.heap.Ns mainGlobals mg) (hm : mg "super" = none) (hb : s.heap.Ns builtinsNs mb) (hb2 : ∀ x : Str, x ≠ "__name__" → mb x = bootBuiltins x) (he : s.heap.get? a = some (HandSPX.excO C t0))
    (fin : ∀ h' tk' dx t1, (∀ c o, c ≠ a → s.heap.get? c = some o → h'.get? c = some o) → s.heap.objs.size ≤ dx → dx ≠ a → h'.get? a = some ({ cls := .ref C, dict := some dx, data := .fields #[.ref t1, .none, .none, .none, .bool false, .none] } : Obj) → h'.Ns1 dx (fun y => if y = b.fld then some u else none) → R (.ok (.ret .none)) { s with heap := h', toks := tk' }) :
    codeAny (model prog w) A (.call (.ref f) ⟨[.ref a, u], []⟩) R s := by
  obtain ⟨nm, q, N, bs, bm, sn, sub, ab, col, dd, k0, k1, k2, k3, k5, hC, hbm⟩ := T.cls
  obtain ⟨oc, od, kV, doc, pm, an, ct, osl, hf, hbind⟩ := T.fn
  obtain ⟨ccl, cdd, vs, ccs, file, tf, hcode, hvs, hfile⟩ := T.code
  obtain ⟨cl, cld, csl, hcell⟩ := T.cell
  obtain ⟨ar, har, hart⟩ : ∃ ar, (params.posonlyargs ++ params.args).head? = some ar ∧ ar.arg = b.slf := by
    have h := T.head
    cases z : (params.posonlyargs ++ params.args).head? with
    | none => rw [z] at h; cases h
    | some ar => rw [z] at h; exact ⟨ar, rfl, Option.some.inj h⟩
  have hcl : clsIn K C = some { name := nm, bases := bs, mro := .ref C :: bm, ns := N, qualname := q, hasDict := true, slotNames := sn, subclasses := sub, abstract := ab, collection := col, hasDel := false } := by unfold clsIn; rw [hC] <;> rfl
  refine ks_codeAny_call_defAt (binds := [(b.slf, .ref a), (b.par, u)]) hdp (X _ _ hf) rfl lim (codeRec_of X T.cd) rfl (hbind s [.ref a, u] rfl) T.nocell (fun x hx => ?_) (fun h1 hns hk1 => ?_) T.co T.gen T.kind
  · simp only [List.mem_cons, List.not_mem_nil, or_false] at hx
    rcases hx with rfl | rfl
    · exact T.kslf
    · exact T.kpar
  have X1 : K.In h1 := X.keeps hk1
  have he1 := hk1 _ _ he
  have vs1 : ([(b.slf, Value.ref a), (b.par, u)] : List (Str × Value)).reverse.lookup b.slf = some (.ref a) := by
    have z : (b.slf == b.par) = false := beq_eq_false_iff_ne.mpr T.ne
    simp [List.lookup, z]
  have vp1 : ([(b.slf, Value.ref a), (b.par, u)] : List (Str × Value)).reverse.lookup b.par = some u := by simp [List.lookup]
  obtain ⟨pl, hev⟩ := T.hev s.heap.objs.size
  show _root_.PySem.wpAt (model prog w) _ (.func b.body (ksEnv qual scope s.heap.objs.size f (.ref cda) cc)) (execs [.Expr b.call b.p5, .Assign [.Attribute (.Name b.slf b.p6) b.fld b.p7] (.Name b.par b.p8) b.p9] (ksEnv qual scope s.heap.objs.size f (.ref cda) cc)) _ _ _
  refine ks_wpAt_execs_cons (ks_wpAt_Expr_any (ks_wpAt_MethodCall (pl := pl) ?_ hev) (T.hi _) (T.hs1 _))
  · refine ks_wpAt_super_base T.ksup T.kcls (by decide) rfl (X1 _ _ hf) rfl har rfl (X1 _ _ hcode) rfl hvs hfile T.top ?_
    refine ks_loadName_global T.kind T.ksup (loadGlobal_builtin (hg.keeps hk1) hm (hb.keeps hk1) ((hb2 "super" (by decide)).trans (by kernel_rfl)) ⟨rfl, ?_⟩)
    refine wpAny_loadName_free T.kind T.kcls rfl ⟨_, X1 _ _ hcell, rfl⟩ ?_
    refine wpAny_loadName_local T.kind (by rw [hart]; exact T.kslf) hns (by rw [hart]; exact vs1) ?_
    refine ks_wpAny_isType_cls (X1 _ _ hC) rfl ⟨rfl, ?_⟩
    refine ks_wpAny_call_super (X1 _ _ hC) rfl he1 rfl (fun c => nofun) (looks_mroIn X1 T.mroC) (fun h2 e2 k2 => ?_)
    have X2 : K.In h2 := X1.keeps k2
    have he2 := k2 _ _ he1
    have I2 : InstAt h2 a (HandSPX.excO C t0) C none := ⟨he2, rfl, rfl, trivial⟩
    have hal : alongIn K "__init__" ((((Value.ref C :: bm) : List Value).dropWhile (· != .ref C)).drop 1) = some (some (.builtin i)) := by
      have z := T.sup
      unfold ks_superIn at z
      rw [hcl] at z
      exact z
    refine kxs_getMethod KF e2 (looks_opaque X2 T.opq) (l₀ := .ref C :: bm) ?_ rfl X2 hal (I2.type.andThen (looks_subIn X2 T.subB)) (ks_ne X2 I2 hcl) (by decide) ?_
    · exact fun A Q E s k q => wpAny_bind ((looks_clsIn X2 hcl) A _ E s k (wpAny_pure q))
    · rw [show starEach [.Constant (.str b.msg) b.j b.p3] (ksEnv qual scope s.heap.objs.size f (.ref cda) cc) = [(false, eval (.Constant (.str b.msg) b.j b.p3) (ksEnv qual scope s.heap.objs.size f (.ref cda) cc))] from rfl]
      refine kxs_callWith (i := i) (x := a) rfl (evalArgs_plain (spliced_cons (wpAny_Constant_str (k := b.j) (pos := b.p3) (spliced_nil ⟨?_, ?_⟩))))
      · exact Heap.get?_push_at rfl rfl
      have k3 : ∀ c o, h2.get? c = some o → (h2.push (kxs_mw i a)).get? c = some o := fun c o z => Heap.get?_push_of_some _ z
      refine call_mw (bm := bm) FB (k3 _ _ (X2 _ _ hC)) (k3 _ _ he2) (Heap.get?_push_at rfl rfl) (by show 1 ≤ sizeLine; rw [sizeLine_eq]; omega) fun h4 t1 k4 he4 => ?_
      have neL : s.heap.objs.size ≠ a := fun z => by
        have y := Heap.lt_size he
        rw [z] at y
        exact absurd y (Nat.lt_irrefl _)
      have kk : ∀ c o, c ≠ a → h1.get? c = some o → h4.get? c = some o := fun c o hc z => k4 c o hc (k3 _ _ (k2 _ _ z))
      have neC : C ≠ a := Ne.symm (ks_ne X2 I2 hcl)
      have X4 : K.In h4 := fun c o z => by
        by_cases hc : c = a
        · rw [hc, hKa] at z
          cases z
        · exact kk c o hc (X1 c o z)
      obtain ⟨oL, es, ep, hL, rL⟩ := hns
      have hns4 : h4.Ns s.heap.objs.size (fun x => ([(b.slf, Value.ref a), (b.par, u)] : List (Str × Value)).reverse.lookup x) := ⟨oL, es, ep, kk _ _ neL hL, rL⟩
      show _root_.PySem.wpAt (model prog w) _ _ (execs [.Assign [.Attribute (.Name b.slf b.p6) b.fld b.p7] (.Name b.par b.p8) b.p9] (ksEnv qual scope s.heap.objs.size f (.ref cda) cc)) _ _ _
      refine wpAt_of_wpAny (wpAny_execs_cons (plainObj_wpAny_Assign_Attribute (wpAny_Name (wpAny_loadName_local T.kind T.kpar hns4 vp1 ?_) T.d2) (T.hs2 _)))
      refine wpAny_Name (wpAny_loadName_local T.kind T.kslf hns4 vs1 ?_) T.d1
      refine set_plain X4 (ox := HandSPX.excO C t1) (od := none) ⟨he4, rfl, rfl, trivial⟩ T.sa ?_
      refine osaX X4 he4 hcl (fun y => by show refuseLoop y "__setattr__" (.ref C :: bm) = _; rw [refuseLoop_ref]; exact refsB_lets lets y bm hbm) T.mroO rfl T.nof fun h5 tk5 dx k5 dn dne he5 n5 => ?_
      refine wpAny_execs_nil ?_
      have up : s.heap.objs.size ≤ dx := Nat.le_trans (Nat.le_of_lt (Heap.lt_size (kk _ _ neL hL))) dn
      exact fin h5 tk5 dx t1 (fun c o hc z => k5 c o hc (kk c o hc (hk1 _ _ z))) up dne he5 n5
end
end PM

/-! raise C(e); defs that raise; their calls -/
namespace PM
open PySem PySem.Spec PyProof.Rows L2
open Builtin Builtin.ObjectAttr
/-- what is known of a class of errors that keep one thing -/
structure ErrK (P : Program) (K : PySem.W.Frag) (C : Addr) (fld : Str) : Prop where
  ex : ∃ (f cc cda : Addr) (B i newId : String) (bmB : List Value) (b : SupSt) (qual : Str) (params : Arguments) (scope : Scope), SupK P K C f cc cda B i newId bmB b qual params scope ∧ b.fld = fld ∧ PySem.W.KxsFacts B i ∧ IniF B i ∧ (∃ (B0 init0 : String) (bm0 : List Value), ExcBaseFacts B0 newId init0 bm0 ∧ LineF B0 bmB) ∧
    (∀ y : Value, refuseLoop y "__setattr__" bmB = pure ()) ∧ PySem.W.findIn K (.ref C) "__init__" = some (some (.ref f)) ∧ PySem.W.typeIn K (.ref f) = some (.type "function")
  keep : PySem.W.keepIn K (.ref C) = true
  exc : PySem.W.subIn K (.ref C) (.type "BaseException") = some true
  typ : PySem.W.typeIn K (.ref C) = some (.type "type")
section
variable {X : Cx} {C : Addr} {fld x : Str} {e : Expr} {te : TE} {p pos : Pos}
def tErr (C : Addr) (fld : Str) (te : TE) : L2.St → Hp → XK → Prop := fun σ H Q => te σ H fun v H1 => ∀ d, H1 d = none → Q (.ref C) (some d) (upd H1 d (.xd [(fld, v)]))
theorem pmk_sup (T : ErrK X.prog X.K C fld) (hm : X.mg "super" = none) (hr : Room 1 X.A) (hg : Gl X x) (gC : X.mg x = some (.ref C)) (he : PE X e te) (hdb : (x == ("__debug__" : Str)) = false := by decide)
    (hs : starEach [e] X.env = (false, eval e X.env) :: starEach [] X.env := by rfl) : PMk X (.Call (.Name x p) [e] [] pos) (tErr C fld te) := by
  intro pins s σ H Q I h
  obtain ⟨f, cc, cda, B, i, newId, bmB, b, qual, params, scope, S, hfl, KF, FB, ⟨B0, init0, bm0, F0, L0⟩, lets, iC, tI⟩ := T.ex
  obtain ⟨nm, q, N, bs, bm, sn, sub, ab, col, dd, k0, k1, k2, k3, k5, hC, hbm⟩ := S.cls
  refine wpAny_Call_Name_kw (ld_glob I hg gC ?_ hdb)
  refine PySem.W.callWith_K (h₀ := X.base) I.ok.mod.kin T.keep ?_ hs (by rfl)
  rw [hs]
  show wpAny _ _ (spliced ((false, eval e X.env) :: backTo pos (starEach [] X.env))) _ _ s
  refine Calls.spliced_cons (thn (he.run pins s σ H _ I h) fun u s1 ⟨v, H1, I1, r1, q1⟩ => Calls.spliced_nil ⟨I1.kIn, ?_⟩)
  show wpAny _ _ (call (.ref C) [u]) _ _ _
  obtain ⟨hp, g, dr, tk, os⟩ := s1
  have rm : Room 0 (X.A.under (.builtin "type.__call__" ⟨.ref C :: [u], []⟩)) := hr.make C [u] []
  have kk : ∀ c o, hp.get? c = some o → ((hp.push (PySem.W.kdv_tup [u])).push (HandSPX.excO C hp.objs.size)).get? c = some o := fun c o z => Heap.get?_push_of_some _ (Heap.get?_push_of_some _ z)
  have ha : ((hp.push (PySem.W.kdv_tup [u])).push (HandSPX.excO C hp.objs.size)).get? (hp.objs.size + 1) = some (HandSPX.excO C hp.objs.size) := by heap_get
  have hKa : X.K.lookup (hp.objs.size + 1) = none := by
    cases z : X.K.lookup (hp.objs.size + 1) with
    | none => rfl
    | some o =>
      have y := Heap.lt_size (I1.kIn _ _ z)
      exact absurd y (by show ¬ (hp.objs.size + 1 < hp.objs.size); omega)
  have up : ∀ c o, X.base.get? c = some o → hp.get? c = some o := I1.bk
  obtain ⟨mb, hb1, hb2⟩ := I1.mod.blt
  refine wpAny_call (call_new F0 ⟨(refsB_has B0 bm hbm).trans L0.hB, (refsB_has _ bm hbm).trans L0.hA, (refsB_has _ bm hbm).trans L0.hN⟩ (I1.kIn _ _ hC) (PySem.W.looks_findIn I1.kIn iC) (fun self => PySem.W.bind_fn I1.kIn self tI) (by show 1 ≤ sizeLine; rw [sizeLine_eq]; omega) ?_)
  refine run_sup S KF FB lets rm.depth hKa (I1.kIn.keeps kk) ((I1.mod.nolimit.keeps up).keeps kk) ((I1.mod.glob.keeps up).keeps kk) hm ((hb1.keeps up).keeps kk) hb2 ha fun h' tk' dx t1 k dn dne he' n1 => ⟨rfl, ?_⟩
  rw [hfl] at n1
  obtain ⟨G, gk, gn⟩ := restrict h' fun c => decide (c ≠ hp.objs.size + 1)
  have g1 : ∀ c, c ≠ hp.objs.size + 1 → G.get? c = h'.get? c := fun c hc => gk c (decide_eq_true hc)
  have g2 : G.get? (hp.objs.size + 1) = none := gn _ (decide_eq_false fun z => z rfl)
  have old : ∀ c o, hp.get? c = some o → G.get? c = some o := fun c o z => by
    have nc : c ≠ hp.objs.size + 1 := fun y => by
      have l := Heap.lt_size z
      rw [y] at l
      exact absurd l (Nat.not_lt.mpr (Nat.le_succ _))
    rw [g1 c nc]
    exact k c o nc (kk c o z)
  have szd : hp.objs.size ≤ dx := by
    have l : ((hp.push (PySem.W.kdv_tup [u])).push (HandSPX.excO C hp.objs.size)).objs.size ≤ dx := dn
    have l2 : hp.objs.size + 1 < ((hp.push (PySem.W.kdv_tup [u])).push (HandSPX.excO C hp.objs.size)).objs.size := Heap.lt_size ha
    exact Nat.le_trans (Nat.le_of_lt (Nat.lt_of_succ_lt l2)) l
  have hn : H1 dx = none := I1.hok.fresh szd
  have J : Inv X pins σ (upd H1 dx (.xd [(fld, v)])) ⟨G, g, dr, tk', os⟩ := I1.laid (t' := tk') (a := dx) (o := .xd [(fld, v)]) (h' := G) old szd ⟨_, n1.at fun o y => (g1 dx dne).trans y, fun y => by
    show RelO (List.lookup y [(fld, v)]) (if y = fld then some u else none)
    by_cases z : y = fld
    · subst z
      rw [if_pos rfl]
      simp [List.lookup]
      exact r1
    · rw [if_neg z]
      have z2 : (y == fld) = false := beq_eq_false_iff_ne.mpr z
      simp [List.lookup, z2]
      exact True.intro⟩
  refine ⟨hp.objs.size + 1, _, _, ⟨G, g, dr, tk', os⟩, _, .ref C, some dx, rfl, J, fun c o z => ?_, g2, he', ⟨rfl, rfl⟩, rfl, rfl, ?_, rfl, I1.bare, raises_own T.exc T.typ, q1 dx hn⟩
  · by_cases nc : c = hp.objs.size + 1
    · have z : G.get? c = some o := z
      rw [nc, g2] at z
      cases z
    · exact (g1 c nc).symm.trans z
  · rw [upd_ne (Ne.symm dne)]
    exact I1.hok.fresh (Nat.le_succ _)
end
end PM

/-! raise, calls of defs that raise, such defs -/
namespace PM
open PySem PySem.Spec PyProof.Rows L2
def mRaise (c : Nat) (f : Str) (m : ME) : MS := fun ρ => (m ρ).bind fun x ρ1 => .exc (.own c [(f, x.1)]) ρ1
/-- a wish that looks at no slot -/
abbrev WF (E : XK) : WX := fun cls d _ H => E cls d H
def mCallX (f : Fn) (ma : MA) : ME := fun ρ => (ma ρ).bind fun xs ρ1 => match f none xs with
  | .ret x none => .ok x ρ1
  | .exc x none => .exc x ρ1
  | _ => .stuck
theorem XcAt.step {w : Wd} {O O' : Av} {H : Hp} {cls : Value} {d : Option Addr} (h : ∀ a, O' a → O a) : ∀ {x : Xc}, XcAt w O H cls d x → XcAt w O' H cls d x
  | .own c [], z => z
  | .own c (f :: fs), ⟨x1, a, vs, x2, x3, x4, x5⟩ => ⟨x1, a, vs, x2, fun q => x3 (h a q), x4, RepL.step (mono_step h) _ _ x5⟩
  | .ty n, z => z
section
variable {w : Wd} {W : WX} {X : Cx} {c : Nat} {fld x : Str} {e : Expr} {es : List Expr} {m : ME} {ma : MA} {p pos pos' : Pos} {E : XK} {f : Fn} {k n j : Nat}
theorem pms_raise1 (tk : Takes X W) (T : ErrK X.prog X.K (w.cl c) fld) (hm : X.mg "super" = none) (hr : Room 1 X.A) (hg : Gl X x) (gC : X.mg x = some (.ref (w.cl c))) (he : PM X w W e m) (hc : X.calm = true := by rfl) (hdb : (x == ("__debug__" : Str)) = false := by decide)
    (hs : starEach [e] X.env = (false, eval e X.env) :: starEach [] X.env := by rfl) : PMS X w W (.Raise (some (.Call (.Name x p) [e] [] pos)) none pos') (mRaise c fld m) := by
  obtain ⟨te, pe, se⟩ := he
  refine ⟨_, ps_raise hc tk (pmk_sup T hm hr hg gC pe hdb hs), fun F O ρ σ H E hw R hh => ?_⟩
  refine se.bindS hw R hh fun y v ρ1 O1 H1 st1 R1 rv h1 d hd => ?_
  subst hw
  obtain ⟨O2, s2, R2, r2, s3⟩ := VlAt.release st1 R1 R.doh rv
  have g : Grow H1 (upd H1 d (.xd [(fld, v)])) := Grow.new hd
  refine h1 O2 σ _ _ _ (s3.trans g.step) (R2.grow g) ⟨rfl, d, [v], rfl, R2.fresh hd, upd_same, ?_⟩
  simp only [List.map_cons, List.map_nil, RepL]
  exact ⟨v, [], rfl, Rep.step g.step _ _ r2, rfl⟩
/-- a def of the module that may raise -/
def DefX (P : Program) (wo : World) (K : PySem.W.Frag) (mg : Str → Option Value) (base : Heap) (w : Wd) (x : Str) (n j : Nat) (f : Fn) : Prop :=
  ∃ a fd ps, ps.length = n ∧ FnOk P wo K mg base (L2.CX P wo) j a fd ps (spOf w n f) ∧ mg x = some (.ref a) ∧ PySem.W.keepIn K (.ref a) = true ∧ Binds K fd ps []
end
section
variable {P : Program} {wo : World} {K : PySem.W.Frag} {mg : Str → Option Value} {base : Heap} {w : Wd}
theorem fn_okX (hT : w.T = []) {x qual : Str} {st : Stmt} {f : Addr} {fd : FuncData} {N ps : List Str} {k : Nat} {m : MS} (F : Fun K x qual st f fd) (S : FnScope N ps (defScope st)) (hl : ps.length ≤ N.length)
    (hb : ∀ (cdv : Value) (A : Around) (outer : List Env) (s : Shared) (H : Hp) (E : XK), Room k (A.deeper (envOfC qual (defScope st) s.heap.objs.size f cdv)) → Takes (cxOf (L2.CX P wo) P wo K mg base N qual (defScope st) f cdv A outer s H E) (WF E) →
      PassesOwn (model P wo) (cxOf (L2.CX P wo) P wo K mg base N qual (defScope st) f cdv A outer s H E).A (cxOf (L2.CX P wo) P wo K mg base N qual (defScope st) f cdv A outer s H E).env (cxOf (L2.CX P wo) P wo K mg base N qual (defScope st) f cdv A outer s H E).xe →
      PMSs (cxOf (L2.CX P wo) P wo K mg base N qual (defScope st) f cdv A outer s H E) w (WF E) (defBody st) m) : FnOk P wo K mg base (L2.CX P wo) (k + 1) f fd ps (spOf w ps.length (fnSem N.length ps.length m)) := by
  have len : ∀ vs H Q E, spOf w ps.length (fnSem N.length ps.length m) vs H Q E → vs.length = ps.length := fun vs H Q E h => by
    obtain ⟨O, om, ds, _, hl, _⟩ := h
    exact hl
  refine F.okX S len fun cdv A outer s H vs Q E hr h => ?_
  obtain ⟨t, p, sm⟩ := hb cdv A outer s H E hr (takes_of rfl rfl rfl rfl) (passes_of rfl)
  exact ⟨t, p, body_ok hT sm (fun _ _ _ _ z => z) hl h⟩
/-- a method that may raise -/
def MthX (P : Program) (wo : World) (K : PySem.W.Frag) (mg : Str → Option Value) (base : Heap) (w : Wd) (g : Addr) (n j : Nat) (f : Fn) : Prop := FnR P wo K mg base (L2.CX P wo) j g (spOf w n f)
end
end PM

/-! try: body / except X as n: .. / except Y as n: ..; no error leaves it -/
namespace PM
open PySem PySem.Spec PyProof.Rows L2
abbrev Cl := Value × (Addr → Value → Option Addr → TS)
def endsN (i : Nat) (D : Ends) : Ends := { nx := fun σ' H' => D.nx (σ'.set i none) H', rt := D.rt, bk := fun σ' H' => D.bk (σ'.set i none) H', ct := fun σ' H' => D.ct (σ'.set i none) H' }
inductive HdN (X : Cx) (n : Str) : List ExceptHandler → List Cl → Prop
  | nil : HdN X n [] []
  | cons {x : Str} {q : Cl} {st : Stmt} {su : List Stmt} {np ps : Pos} {hs : List ExceptHandler} {l : List Cl} (nm : Names X x q.1)
      (ok : ∀ (a : Addr) (oe : Obj) (cls : Value) (d : Option Addr) (pn : List (Addr × Obj)), Zc cls d oe → (∃ vs, oe.data = .fields vs) → PSs (X.suite a ((a, oe) :: pn)) (st :: su) (q.2 a cls d)) (r : HdN X n hs l) :
      HdN X n (.ExceptHandler (some (.Name x np)) (some n) (st :: su) ps :: hs) (q :: l)
section
variable {X : Cx} {n : Str} {i : Nat} {body : List Stmt} {hd : ExceptHandler} {hs : List ExceptHandler} {l : List Cl} {pos : Pos} {tb : WX → TS}
end
end PM

/-! try: return C.m(x) / except A as n: return (z1, n.f1) / except B as n: return (z2, n.f2) -/
namespace PM
open PySem PySem.Spec PyProof.Rows L2
/-- what is known of an error's class in a clause -/
structure ClK (K : PySem.W.Frag) (C : Addr) (f : Str) : Prop where
  xf : XfC K C
  no : PySem.W.findIn K (.ref C) f = some none
  me : PySem.W.exmOne K (.ref C) (.ref C) = some true
section
variable {F : Fr} {O : Av} {ρ : En} {σ σ' : L2.St} {H H' : Hp} {E : Ends} {i : Nat} {C : Addr} {f z : Str} {dd : D}
end
section
variable {w : Wd} {X : Cx} {c c1 c2 i i0 k : Nat} {f1 z1 f2 z2 : Str} {g : Addr} {fn : Fn} {o x m n x1 x2 : Str} {q0 q1 q2 q3 q4 q5 r0 r1 r2 r3 r4 r5 s0 s1 s2 s3 s4 s5 pos : Pos} {j1 j2 : Nat} {t1 t2 : Nat} {pl : Sem Bool} {pl0 : Pos}
end
end PM

/-! own lists, further; is None; name += e -/
namespace PM
open PySem PySem.Spec PyProof.Rows L2
section
variable {w : Wd} {W : WX} {X : Cx} {pos p pos' : Pos} {x y z : Str} {a b e : Expr} {ma mb m mk : ME} {mr : MA}
/-! ### is None -/
/-! ### name += e, ints -/
/-! ### x, y, z = [], [], k; x, y = k, [] -/
end
end PM

namespace PM
open PySem PySem.Spec PyProof.Rows L2
section
variable {w : Wd} {W : WX} {X : Cx} {pos p p1 p2 pos' apos : Pos} {x y z : Str} {a b e k : Expr} {ma mb m mk : ME} {mr : MA}
/-! ### own list == [], != [] -/
section
variable {kk : Nat} (i : Nat) (hK : w.K = X.K) (hr : Room kk X.A) (hN : X.N[i]? = some x) (hv : Vis X.env.scope x) (hd : (x == ("__debug__" : Str)) = false) (hcd : (x == ("__classdict__" : Str)) = false)
include hK hr hN hv hd hcd
end
/-! ### own[lo:hi] -/
/-! ### own.extend(e) -/
/-! ### own[k], y = e -/
end
end PM

/-! text * int; list(text) -/
namespace PM
open PySem PySem.Spec PyProof.Rows L2
def repS (x : Str) (k : Nat) : Str := ⟨(List.replicate k x.cps).foldl (· ++ ·) #[]⟩
theorem fold_size (c : Array Nat) : ∀ (k : Nat) (acc : Array Nat), ((List.replicate k c).foldl (· ++ ·) acc).size = acc.size + k * c.size
  | 0, acc => by simp
  | k + 1, acc => by
    rw [List.replicate_succ, List.foldl_cons, fold_size c k (acc ++ c), Array.size_append, Nat.succ_mul]
    omega
theorem repS_len (x : Str) (k : Nat) : (repS x k).length = k * x.length := by
  show ((List.replicate k x.cps).foldl (· ++ ·) #[]).size = _
  rw [fold_size]
  simp
  rfl
def mulS : D → D → Option Vl
  | .str x, .int k => if 2 ≤ k ∧ k ≤ 10000 ∧ 0 < x.length ∧ x.length ≤ 1000 then some (dS (repS x k.toNat)) else none
  | _, _ => none
def rMulS : R2 := fun x y H Q => ∃ u k, x = .str u ∧ y = .int k ∧ 2 ≤ k ∧ k ≤ 10000 ∧ 0 < u.length ∧ u.length ≤ 1000 ∧ Q (.str (repS u k.toNat)) H
section
variable {w : Wd} {W : WX} {X : Cx} {pos p : Pos} {a b e : Expr} {ma mb : ME} {mr : MA}
theorem op_mulS : OpR X (binaryOp .Mult) rMulS := by
  intro pins s σ H x y v u Q I rx ry h
  obtain ⟨z, k, rfl, rfl, h1, h2, h3, h4, q⟩ := h
  obtain ⟨t, rfl⟩ := rx
  obtain ⟨t', rfl⟩ := ry
  have n1 : ¬ k < 1 := by omega
  have n2 : (k == 1 || z.length == 0) = false := by
    rw [Bool.or_eq_false_iff]
    exact ⟨beq_eq_false_iff_ne.mpr (by omega), beq_eq_false_iff_ne.mpr (by omega)⟩
  refine P.mul_str (by simp; omega) (fun _ _ => ?_) (fun _ _ => ?_) ?_
  · have : (2 ^ 63 - 1) / k ≥ 1000 := by
      apply Int.le_ediv_of_mul_le (by omega)
      omega
    omega
  · have l1 : z.length * k.toNat ≤ 1000 * 10000 := Nat.mul_le_mul h4 (by omega)
    unfold Builtin.Str.tooLong
    simp [sizeLine_eq]
    omega
  · rw [if_neg n1, n2]
    simp only [Bool.false_eq_true, if_false]
    refine ⟨?_, .str _, H, I.tok _, ⟨_, rfl⟩, q⟩
    show (repS z k.toNat).length ≤ sizeLine
    have l1 : k.toNat * z.length ≤ 10000 * 1000 := Nat.mul_le_mul (by omega) h4
    rw [repS_len, sizeLine_eq]
    omega
theorem o2_mulS : Op2 w rMulS mulS := fun O H x y z vx vy Q dm e hx hy k => by
  cases x <;> cases y <;> simp only [mulS] at e <;> first | (cases e; done) | skip
  split at e
  · rename_i u n hf
    cases e
    simp only [Rep] at hx hy
    exact ⟨u, n, hx, hy, hf.1, hf.2.1, hf.2.2.1, hf.2.2.2, k.str⟩
  · cases e
theorem pm_mulS (ha : PM X w W a ma) (hb : PM X w W b mb) : PM X w W (.BinOp a .Mult b pos) (mOp2 mulS ma mb) := pm_bin op_mulS o2_mulS ha hb
end
end PM

/-! str(x), len(x), y in x of an instance; tuple == instance -/
namespace PM
open PySem PySem.Spec PyProof.Rows L2
section
variable {X : Cx} {C g : Addr} {sp : Sp} {n : Nat}
end
/-- what a class with such defs must say -/
structure DunOk (w : Wd) (c : Nat) (f : Str) (g : Addr) : Prop where
  at_ : PySem.W.findIn w.K (.ref (w.cl c)) f = some (some (.ref g))
  fn : PySem.W.isFn w.K (.ref g) = true
section
variable {w : Wd} {W : WX} {X : Cx} {pos p : Pos} {a b e : Expr} {ma mb : ME} {mr : MA} {c n : Nat} {g : Addr} {fn : Fn}
end
end PM

/-! the head's facts, with defs that close over their class (super()), and classes of errors -/
namespace PM
open PySem PySem.Spec PyProof.Rows L2
open PySem.W (Frag findIn typeIn subIn keepIn)
/-- an __init__ that closes over its class -/
structure DfC where
  at_ : Frag → Addr
  name : Str
  qual : Str
  st : Stmt
def fnC (K : Frag) (a : Addr) : He.FnV := match K.lookup a with
  | some ⟨_, _, .func fd, _⟩ => some (fd.name, fd.qualname, fd.params, fd.body, fd.scope, fd.globals, [], fd.defaults, fd.builtins)
  | _ => none
def DfC.val (d : DfC) : He.FnV := some (d.name, d.qual, defArgs d.st, .stmts (defBody d.st), defScope d.st, mainGlobals, [], .none, builtinsNs)
/-- where the code object and the cell of such a def stand -/
def codeAt (K : Frag) (a : Addr) : Addr := match K.lookup a with
  | some ⟨_, _, .func fd, _⟩ => (match fd.code with | .ref c => c | _ => 0)
  | _ => 0
def cellAt (K : Frag) (a : Addr) : Addr := match K.lookup a with
  | some ⟨_, _, .func fd, _⟩ => (match fd.closure with | [(_, c)] => c | _ => 0)
  | _ => 0
def clB (K : Frag) (a : Addr) : Bool := match K.lookup a with
  | some ⟨_, _, .func fd, _⟩ => (match fd.code, fd.closure with | .ref _, [(n, _)] => decide (n = ("__class__" : Str)) | _, _ => false)
  | _ => false
theorem fnC_ok {K : Frag} {d : DfC} (e : fnC K (d.at_ K) = d.val) (c : clB K (d.at_ K) = true) : ∃ (oc : Value) (od : Option Addr) (kV doc pm : Value) (an : Option Addr) (ct : Value) (osl : Array (Option Value)),
    K.lookup (d.at_ K) = some ⟨oc, od, .func (PySem.W.ksFn d.name d.qual (defArgs d.st) (defBody d.st) (defScope d.st) .none kV doc pm an (.ref (codeAt K (d.at_ K))) ct (cellAt K (d.at_ K))), osl⟩ := by
  unfold fnC at e
  unfold clB at c
  unfold codeAt cellAt
  cases q : K.lookup (d.at_ K) with
  | none => rw [q] at c; cases c
  | some o =>
    obtain ⟨oc, od, dt, osl⟩ := o
    rw [q] at c e
    cases dt with
    | func fd =>
      obtain ⟨n1, n2, n3, n4, n5, n6, n7, n8, n9, n10, n11, n12, n13, n14, n15⟩ := fd
      have e2 : (some (n1, n2, n3, n4, n5, n6, [], n8, n15) : He.FnV) = d.val := e
      unfold DfC.val at e2
      simp only [Option.some.injEq, Prod.mk.injEq] at e2
      obtain ⟨h1, h2, h3, h4, h5, h6, _, h8, h9⟩ := e2
      subst h1 h2 h3 h4 h5 h6 h8 h9
      cases n13 with
      | ref cd =>
        cases n7 with
        | nil => cases c
        | cons p r =>
          cases r with
          | cons _ _ => cases c
          | nil =>
            obtain ⟨nm, cc⟩ := p
            have c : decide (nm = ("__class__" : Str)) = true := c
            have c := of_decide_eq_true c
            subst c
            exact ⟨oc, od, _, _, _, _, _, osl, rfl⟩
      | _ => cases c
    | _ => cases c
def obsX (cs : List Chk) (fn : List DfM) (fc : List DfC) (ts : List He.Tab) (K : Frag) : AlM := (((cs.all fun c => c K) && (fn.all fun d => d.ok K) && fc.all fun d => clB K (d.at_ K), (fn.map fun d => fnM K (d.at_ K)) ++ fc.map fun d => fnC K (d.at_ K)), ts.map fun t => He.dicW K (t.1 K))
def valX (fn : List DfM) (fc : List DfC) (ts : List He.Tab) (w : World) : AlM := ((true, fn.map DfM.val ++ fc.map DfC.val), ts.map fun t => some (He.keysIn w.params t.2))
def SaysX (cs : List Chk) (fn : List DfM) (fc : List DfC) (ts : List He.Tab) (w : World) (K : Frag) : Prop := obsX cs fn fc ts K = valX fn fc ts w
section
variable {cs : List Chk} {fn : List DfM} {fc : List DfC} {ts : List He.Tab} {w : World} {K : Frag}
theorem SaysX.m (c : SaysX cs fn fc ts w K) : SaysM cs fn ts w K ∧ (fc.map fun d => fnC K (d.at_ K)) = fc.map DfC.val ∧ (fc.all fun d => clB K (d.at_ K)) = true := by
  have e1 : ((cs.all fun c => c K) && (fn.all fun d => d.ok K) && fc.all fun d => clB K (d.at_ K)) = true := congrArg (fun z : AlM => z.1.1) c
  have e2 : (fn.map fun d => fnM K (d.at_ K)) ++ (fc.map fun d => fnC K (d.at_ K)) = fn.map DfM.val ++ fc.map DfC.val := congrArg (fun z : AlM => z.1.2) c
  have e3 : ts.map (fun t => He.dicW K (t.1 K)) = ts.map fun t => some (He.keysIn w.params t.2) := congrArg (fun z : AlM => z.2) c
  obtain ⟨h1, h2⟩ := He.ba e1
  obtain ⟨h3, h4⟩ := List.append_inj e2 (by simp)
  refine ⟨?_, h4, h2⟩
  show obsM cs fn ts K = valM fn ts w
  unfold obsM valM
  rw [h1, h3, e3]
theorem SaysX.cl (c : SaysX cs fn fc ts w K) (i : Nat) {d : DfC} (h : fc[i]? = some d := by rfl) : fnC K (d.at_ K) = d.val ∧ clB K (d.at_ K) = true := by
  obtain ⟨_, h4, h2⟩ := c.m
  have e2 : (fc.map fun d => fnC K (d.at_ K))[i]? = (fc.map DfC.val)[i]? := by rw [h4]
  rw [List.getElem?_map, List.getElem?_map, h] at e2
  exact ⟨Option.some.inj e2, List.all_eq_true.mp h2 d (List.mem_of_getElem? h)⟩
end
/-! ### a class of errors -/
def supOf : List Stmt → Option SupSt
  | [.Expr (.Call (.Attribute (.Call (.Name _ p0) [] [] p1) _ p2) [.Constant (.str msg) j p3] [] p4) p5, .Assign [.Attribute (.Name slf p6) fld p7] (.Name par p8) p9] => some ⟨msg, fld, slf, par, j, p0, p1, p2, p3, p4, p5, p6, p7, p8, p9⟩
  | _ => none
/-- what K says of the class C, its __init__ at f -/
def errB (C : Str) (fld : Str) (B i newId : String) (bmB : List Value) (file : Str) : Chk := fun K =>
  let c := He.ga K C
  let f := metAt C "__init__" K
  (match K.lookup c with
    | some ⟨.type ty, _, .cls cd, sl⟩ => decide (ty = "type") && (decide (cd.mro.head? = some (.ref c)) && (refsB bmB cd.mro.tail && (cd.hasDict && (!cd.hasDel && (match sl.toList with | [_, _, _, _, some (.builtin n), _] => decide (n = newId) | _ => false)))))
    | _ => false) &&
  (PySem.W.codeIn K (.ref (codeAt K f)) (C ++ ".__init__") &&
  ((match K.lookup (codeAt K f) with | some ⟨_, _, .fields vs, _⟩ => (match (vs[2]? : Option Value) with | some (.str z _) => decide (z = file) | _ => false) | _ => false) &&
  ((match K.lookup (cellAt K f) with | some ⟨_, _, .cell (some (.ref D)), _⟩ => decide (D = c) | _ => false) &&
  ((match PySem.W.nsIn K cStatics "thirdparty.any" with | some none => true | _ => false) &&
  ((match PySem.W.ks_superIn K c c "__init__" with | some (some (.builtin n)) => decide (n = i) | _ => false) &&
  (obB (subIn K (.ref c) (.type B)) (some true) && (obB (PySem.W.mroIn K c (.ref c)) (some true) && (obB (PySem.W.mroIn K c (.type "object")) (some true) &&
  (He.eqO (findIn K (.ref c) "__setattr__") (some (some (.builtin "object.__setattr__"))) && ((match findIn K (.ref c) fld with | some none => true | _ => false) &&
  (He.eqO (findIn K (.ref c) "__init__") (some (some (.ref f))) && (decide (typeIn K (.ref f) = some (.type "function")) && (keepIn K (.ref c) && (obB (subIn K (.ref c) (.type "BaseException")) (some true) && decide (typeIn K (.ref c) = some (.type "type"))))))))))))))))
end PM

namespace PM
open PySem PySem.Spec PyProof.Rows L2
open PySem.W (Frag findIn typeIn subIn keepIn ksEnv ksFn)
/-- what the text of such an __init__ says by itself -/
structure SupS (P : Program) (st : Stmt) (b : SupSt) (qual file : Str) : Prop where
  body : b.body = defBody st
  head : ((defArgs st).posonlyargs ++ (defArgs st).args).head?.map (·.arg) = some b.slf
  ne : b.slf ≠ b.par
  kind : (defScope st).kind = .function
  co : (defScope st).isCoroutine = false
  gen : (defScope st).isGenerator = false
  nocell : ∀ x ∈ (defScope st).names, x.2 ≠ .cell
  ksup : (defScope st).names.lookup ("super" : Str) = some .globalImplicit
  kcls : (defScope st).names.lookup ("__class__" : Str) = some .free
  kslf : (defScope st).names.lookup b.slf = some .local
  kpar : (defScope st).names.lookup b.par = some .local
  top : (P.main.scope.names.lookup ("super" : Str)).isSome = false
  file : ((P.main.file : Str) == file) = true
  binds : ∀ (kV doc pm : Value) (an : Option Addr) (cdv ct : Value) (cc : Addr) (us : List Value), us.length = 2 → bindArgs (ksFn "__init__" qual (defArgs st) (defBody st) (defScope st) .none kV doc pm an cdv ct cc) ⟨us, []⟩ = pure ([b.slf, b.par].zip us)
  hi : ∀ L f cda cc, interactive (ksEnv qual (defScope st) L f (.ref cda) cc) = false
  hs1 : ∀ L f cda cc, swapsWith b.call none b.p5.line (ksEnv qual (defScope st) L f (.ref cda) cc) = pure false
  hs2 : ∀ L f cda cc, swapsWith (.Name b.par b.p8) (some (.Attribute (.Name b.slf b.p6) b.fld b.p7)) b.p9.line (ksEnv qual (defScope st) L f (.ref cda) cc) = pure false
  hev : ∀ L f cda cc, ∃ pl : Sem Bool, eval b.call (ksEnv qual (defScope st) L f (.ref cda) cc) = (do
      let ov ← attributeBase (.Call (.Name "super" b.p0) [] [] b.p1) "__init__" (ksEnv qual (defScope st) L f (.ref cda) cc) (eval (.Call (.Name "super" b.p0) [] [] b.p1) (ksEnv qual (defScope st) L f (.ref cda) cc))
      standAt b.p2.atName
      let (fv, first) ← holding [ov] (getMethod ov "__init__" pl)
      callWith b.p4 fv first (backTo b.p4 (starEach [.Constant (.str b.msg) b.j b.p3] (ksEnv qual (defScope st) L f (.ref cda) cc))) [])
  d1 : (b.slf == ("__debug__" : Str)) = false
  d2 : (b.par == ("__debug__" : Str)) = false
theorem b2' {a b : Bool} (h : (a && b) = true) : a = true ∧ b = true := Bool.and_eq_true_iff.mp h
theorem err_ok {P : Program} {K : Frag} {C fld file : Str} {B i newId : String} {bmB : List Value} {st : Stmt} {b : SupSt} (S : SupS P st b (C ++ ".__init__") file) (hfl : b.fld = fld) (h : errB C fld B i newId bmB file K = true)
    (h2 : fnC K (metAt C "__init__" K) = DfC.val ⟨metAt C "__init__", "__init__", C ++ ".__init__", st⟩) (h3 : clB K (metAt C "__init__" K) = true) (KF : PySem.W.KxsFacts B i) (FB : IniF B i) (NF : ∃ (B0 init0 : String) (bm0 : List Value), ExcBaseFacts B0 newId init0 bm0 ∧ LineF B0 bmB) (lets : ∀ y : Value, refuseLoop y "__setattr__" bmB = pure ()) : ErrK P K (He.ga K C) fld := by
  unfold errB at h
  obtain ⟨g1, h⟩ := b2' h
  obtain ⟨g2, h⟩ := b2' h
  obtain ⟨g3, h⟩ := b2' h
  obtain ⟨g4, h⟩ := b2' h
  obtain ⟨g5, h⟩ := b2' h
  obtain ⟨g6, h⟩ := b2' h
  obtain ⟨g7, h⟩ := b2' h
  obtain ⟨g8, h⟩ := b2' h
  obtain ⟨g9, h⟩ := b2' h
  obtain ⟨g10, h⟩ := b2' h
  obtain ⟨g11, h⟩ := b2' h
  obtain ⟨g12, h⟩ := b2' h
  obtain ⟨g13, h⟩ := b2' h
  obtain ⟨g14, h⟩ := b2' h
  obtain ⟨g15, g16⟩ := b2' h
  obtain ⟨oc, od, kV, doc, pm, an, ct, osl, hf⟩ := fnC_ok (d := ⟨metAt C "__init__", "__init__", C ++ ".__init__", st⟩) h2 h3
  have hf : K.lookup (metAt C "__init__" K) = some ⟨oc, od, .func (ksFn "__init__" (C ++ ".__init__") (defArgs st) (defBody st) (defScope st) .none kV doc pm an (.ref (codeAt K (metAt C "__init__" K))) ct (cellAt K (metAt C "__init__" K))), osl⟩ := hf
  have no : findIn K (.ref (He.ga K C)) fld = some none := by
    split at g11
    · assumption
    · cases g11
  refine ⟨⟨metAt C "__init__" K, cellAt K (metAt C "__init__" K), codeAt K (metAt C "__init__" K), B, i, newId, bmB, b, C ++ ".__init__", defArgs st, defScope st, ?_, hfl, KF, FB, NF, lets, He.eqO_ok g12, of_decide_eq_true g13⟩, g14, of_decide_eq_true g15, of_decide_eq_true g16⟩
  refine ⟨?_, ⟨oc, od, kV, doc, pm, an, ct, osl, by rw [S.body]; exact hf, fun s us hl => .of_eq (by rw [S.body]; exact S.binds _ _ _ _ _ _ _ us hl)⟩, g2, ?_, ?_, S.head, S.ne, S.kind, S.co, S.gen, S.nocell, S.ksup, S.kcls, S.kslf, S.kpar, S.top, ?_, ?_, of_decide_eq_true g7, of_decide_eq_true g8, of_decide_eq_true g9, He.eqO_ok g10, by rw [hfl]; exact no, fun L => S.hi L _ _ _, fun L => S.hs1 L _ _ _, fun L => S.hs2 L _ _ _, fun L => S.hev L _ _ _, S.d1, S.d2⟩
  · split at g1
    · rename_i ty dd cd sl e
      obtain ⟨a1, g1⟩ := b2' g1
      obtain ⟨a2, g1⟩ := b2' g1
      obtain ⟨a3, g1⟩ := b2' g1
      obtain ⟨a4, g1⟩ := b2' g1
      obtain ⟨a5, a6⟩ := b2' g1
      have a1 := of_decide_eq_true a1
      subst a1
      have a2 := of_decide_eq_true a2
      split at a6
      · rename_i k0 k1 k2 k3 nn k5 es
        have a6 := of_decide_eq_true a6
        subst a6
        obtain ⟨nm, bs, mro, ns, qn, hd, sn, sub, ab, col, del⟩ := cd
        simp only at a2 a3 a4 a5
        cases mro with
        | nil => cases a2
        | cons m0 bm =>
          cases a2
          have a5 : del = false := by simpa using a5
          subst a4
          subst a5
          have hsl : sl = #[k0, k1, k2, k3, some (.builtin nn), k5] := by
            obtain ⟨l⟩ := sl
            simp only at es
            rw [es]
          subst hsl
          exact ⟨nm, qn, ns, bs, bm, sn, sub, ab, col, dd, k0, k1, k2, k3, k5, e, a3⟩
      · cases a6
    · cases g1
  · split at g3
    · rename_i ccl cdd vs ccs e
      split at g3
      · rename_i z t ez
        have ezz := of_decide_eq_true g3
        subst ezz
        exact ⟨ccl, cdd, vs, ccs, z, t, e, ez, S.file⟩
      · cases g3
    · cases g3
  · split at g4
    · rename_i cl cld D csl e
      have eD := of_decide_eq_true g4
      subst eD
      exact ⟨cl, cld, csl, e⟩
    · cases g4
  · split at g5
    · assumption
    · cases g5
  · split at g6
    · rename_i nn e
      have en := of_decide_eq_true g6
      subst en
      exact e
    · cases g6
def clkB (C f : Str) : Chk := fun K => xfB K (He.ga K C) && ((match findIn K (.ref (He.ga K C)) f with | some none => true | _ => false) && obB (PySem.W.exmOne K (.ref (He.ga K C)) (.ref (He.ga K C))) (some true))
theorem clkB_ok {K : Frag} {C f : Str} (h : clkB C f K = true) : ClK K (He.ga K C) f := by
  obtain ⟨h1, h⟩ := b2' h
  obtain ⟨h2, h3⟩ := b2' h
  refine ⟨xfB_ok h1, ?_, of_decide_eq_true h3⟩
  split at h2
  · assumption
  · cases h2
end PM

/-! list(x), x an instance whose __iter__ gives iter(a tuple that it keeps), with its own __len__ -/
namespace PM
open PySem PySem.Spec PyProof.Rows L2
section
variable {prog : Program} {w : World} {A : Around} {E : Value → Shared → Prop} {s : Shared} {Q : Option Value → Shared → Prop}
end
section
variable {X : Cx} {pins : List (Addr × Obj)} {σ : L2.St} {H0 : Hp} {t it q0 : Addr} {zs : List V} {Rs : Result → Shared → Prop} {A1 : Around}
end
section
variable {prog : Program} {w : World} {A : Around} {E : Value → Shared → Prop} {s : Shared} {t : Addr} {items : Array Value}
end
section
variable {X : Cx}
end
section
variable {P : Program} {wo : World} {K : PySem.W.Frag} {mg : Str → Option Value} {base : Heap}
end
section
variable {X : Cx} {C fi fl : Addr} {i n : Nat} {spL : Sp}
end
section
variable {w : Wd} {W : WX} {X : Cx} {pos p : Pos} {e : Expr} {mr : MA} {c i n : Nat} {g gi : Addr} {fn : Fn}
end
end PM

/-! sets of texts: set(xs), sorted(set), len(set) -/
namespace PM
open PySem PySem.Spec PyProof.Rows L2
section
variable {P : Program} {w : World} {A : Around} {E : Value → Shared → Prop} {s : Shared} {a : Addr} {l : List Str} {h h' : Heap}
theorem SetS.at (R : SetS w h a l) (k : ∀ o, h.get? a = some o → h'.get? a = some o) : SetS w h' a l := by
  obtain ⟨⟨o, es, ep, t, ho, r⟩, nd⟩ := R
  exact ⟨⟨o, es, ep, t, k o ho, r⟩, nd⟩
end
section
variable {prog : Program} {w : World} {A : Around} {R : Result → Shared → Prop} {I : Addr} {fp wr : List Addr} {G : Array GenState → Array GenState → Prop} {n : Nat} {P : Nat → Value → Prop} {St : Nat → Shared → Prop}
end
end PM

/-! set(xs), xs texts -/
namespace PM
open PySem PySem.Spec PyProof.Rows L2
section
variable {P : Program} {w : World} {A : Around} {E : Value → Shared → Prop} {s : Shared}
end
section
variable {X : Cx}
end
end PM

/-! sorted(set(x)), len(set(x)), sorted(d) of texts: what they are worth -/
namespace PM
open PySem PySem.Spec PyProof.Rows L2
section
variable {w : Wd} {W : WX} {X : Cx} {pos p p2 pos2 : Pos} {e : Expr} {mr : MA}
end
end PM

/-! one sign in a text; upper; ''.join(..) -/
namespace PM
open PySem PySem.Spec PyProof.Rows L2
def inSg (neg : Bool) : D → D → Option Vl
  | .str ⟨⟨[c]⟩⟩, .str z => some (dB (if neg then !decide (c ∈ z.cps.toList) else decide (c ∈ z.cps.toList)))
  | _, _ => none
section
variable {w : Wd} {W : WX} {X : Cx} {pos p apos : Pos} {a b e o : Expr} {ma mb m : ME}
theorem o2_inSg (neg : Bool) : Op2 w (fun x y H Q => ∃ (c : Nat) (z : Str), x = .str ⟨#[c]⟩ ∧ y = .str z ∧ Q (.bl (if neg then !decide (c ∈ z.cps.toList) else decide (c ∈ z.cps.toList))) H) (inSg neg) := fun O H x y z vx vy Q dm e hx hy k => by
  unfold inSg at e
  split at e
  · rename_i c z
    cases e
    simp only [Rep] at hx hy
    subst hx hy
    exact ⟨c, z, rfl, rfl, k.bl⟩
  · cases e
theorem pm_inSg (ha : PM X w W a ma) (hb : PM X w W b mb) (hm : behindInMarks .In b = false := by rfl) : PM X w W (.Compare a [.In] [b] pos) (mOp2 (inSg false) ma mb) := pm_cmp op_in_sign (o2_inSg false) ha hb hm
end
end PM

/-! dicts with keys ints and texts: d[k], sorted(d), dict(pairs), list(d.items()) -/
namespace PM
open PySem PySem.Spec PyProof.Rows L2
section
variable {w : Wd} {W : WX} {X : Cx} {pos p p2 apos cpos : Pos} {a b e o i : Expr} {ma mb m : ME} {mr : MA}
end
end PM

/-! raise C('..'), an error class without own __init__ -/
namespace PM
open PySem PySem.Spec PyProof.Rows L2
def mRaise0 (c : Nat) : MS := fun ρ => .exc (.own c []) ρ
section
variable {w : Wd} {W : WX} {X : Cx} {c j : Nat} {x m : Str} {p p2 pos pos' : Pos} {B newId initId : String} {bmB : List Value}
theorem pms_raise0 (tk : Takes X W) (F : ExcBaseFacts B newId initId bmB) (q : PySem.W.excIn X.K (w.cl c) bmB newId = true) (kC : PySem.W.keepIn X.K (.ref (w.cl c)) = true) (r : Raises X (.ref (w.cl c))) (hg : Gl X x) (gC : X.mg x = some (.ref (w.cl c))) (hc : X.calm = true := by rfl) (hdb : (x == ("__debug__" : Str)) = false := by decide) :
    PMS X w W (.Raise (some (.Call (.Name x p) [.Constant (.str m) j p2] [] pos)) none pos') (mRaise0 c) := by
  refine ⟨_, ps_raise hc tk (pmk_own F q gC kC r hg hdb), fun F O ρ σ H E hw R hh => ?_⟩
  subst hw
  exact hh O σ H _ _ (Step.refl _ _) R ⟨rfl, rfl⟩
end
end PM

/-! try: return f(x, y) / except C: return 'z' -/
namespace PM
open PySem PySem.Spec PyProof.Rows L2
section
variable {w : Wd} {X : Cx} {c i0 i1 k : Nat} {z : Str} {fn : Fn} {f x y x1 : Str} {q0 q1 q2 q3 q4 q5 r4 r5 pos pos2 : Pos} {j1 : Nat}
end
end PM

/-! d[k] = v, d a dict of one's own -/
namespace PM
open PySem PySem.Spec PyProof.Rows L2
def hasK (ks : List D) (kk : Key) : Bool := ks.any fun k => decide (keyD k = some kk)
section
variable {w : Wd} {W : WX} {X : Cx} {x : Str} {p pos : Pos}
end
end PM

/-! one's own list or dict is given away; x, y = e, []; x, y = e, {} -/
namespace PM
open PySem PySem.Spec PyProof.Rows L2
def dataOf : Mu → Option D
  | .lst ds => some (.lst ds)
  | .dct ks ds => some (.dct ks ds)
  | .ins _ _ => none
  | .dkt ks ds => some (.dkt ks ds)
  | .rcd c ns ds => some (.rcd c ns ds)
/-- x, x one's own so far: data from then on -/
def mGive (i : Nat) : ME := fun ρ => match ρ[i]? with
  | some (.own m) => (match dataOf m with
    | some d => .ok (d, false) (ρ.set i (.val d))
    | none => .stuck)
  | some (.val d) => .ok (d, false) ρ
  | _ => .stuck
theorem set_same {α : Type} {l : List α} {i : Nat} {x : α} (h : l[i]? = some x) : l.set i x = l := by
  apply List.ext_getElem?
  intro j
  by_cases z : i = j
  · subst z
    rw [List.getElem?_set_self', h]
    rfl
  · rw [List.getElem?_set_ne z]
theorem sim_give {w : Wd} {W : WX} (i : Nat) : Sim w W (tVar i) (mGive i) := fun F O ρ σ H Q hw R hh => by
  subst hw
  unfold mGive at hh
  split at hh
  · rename_i m e
    split at hh
    · rename_i d ed
      obtain ⟨a, e1, e2, e3, e4⟩ := R.slot i _ e
      have is : m.is d := by
        cases m <;> simp only [dataOf] at ed <;> cases ed <;> rfl
      have lt : i < ρ.length := by
        rcases Nat.lt_or_ge i ρ.length with y | y
        · exact y
        · rw [List.getElem?_eq_none y] at e
          cases e
      have ap : Apart (ρ.set i .non) σ a := fun j s q hm z => by
        by_cases y : i = j
        · subst y
          rw [List.getElem?_set_self lt] at q
          cases q
          cases hm
        · rw [List.getElem?_set_ne y] at q
          exact y (R.dist i j _ _ e q rfl hm (e1.trans z.symm))
      have hb : ¬ F.B a := fun q => R.bh a q e3
      have R1 := (R.setN (i := i)).release ap hb
      have r1 : Rep F.w (off O a) H d (.ref a) := (e4.step off_step rfl).rep (fun q => q.2 rfl) is
      have R2 := R1.setV (i := i) r1 (by rw [List.getElem?_set_self lt]; rfl)
      rw [List.set_set, set_same e1] at R2
      exact ⟨_, e1, hh (off O a) H _ off_step R2 r1⟩
    · exact hh.elim
  · rename_i d hd
    obtain ⟨v, e1, h1⟩ := R.slot i _ hd
    exact ⟨v, e1, (hh.go (Step.refl O H) R).val h1⟩
  · exact hh.elim
def mPar0 (i j : Nat) (mu : Mu) (m : ME) : MS := fun ρ => (m ρ).bind fun x ρ1 => match setO i x ρ1 with
  | none => .stuck
  | some ρ2 => if notIo (ρ2[j]?) = true then .ok .nx (ρ2.set j (.own mu)) else .stuck
section
variable {w : Wd} {W : WX} {X : Cx} {x y : Str} {p pos : Pos} {a : Expr} {m : ME}
theorem pm_give (i : Nat) (hN : X.N[i]? = some x := by rfl) (hv : Vis X.env.scope x := by first | exact Or.inl rfl | exact Or.inr (Or.inl rfl) | exact Or.inr (Or.inr rfl)) (hd : (x == ("__debug__" : Str)) = false := by decide)
    (hcd : (x == ("__classdict__" : Str)) = false := by decide) : PM X w W (.Name x pos) (mGive i) := ⟨_, pe_var hN hv hd hcd, sim_give i⟩
theorem par_end {F : Fr} {O : Av} {ρ : En} {σ : L2.St} {H : Hp} {E : Ends} {i j : Nat} {mu : Mu} {o : HO} {x : Vl} {v : V} {ρ1 : En} {O1 : Av} {H1 : Hp} {c : Addr} (R : Rel F O ρ σ H) (st : Step O H O1 H1) (R1 : Rel F O1 ρ1 σ H1) (rv : VlAt F.w σ H ρ1 O1 H1 v x) (hc : H1 c = none) (hm : ∀ O', MuAt F.w O' (upd H1 c o) c mu)
    (h : HoldS F W O1 H1 E (match setO i x ρ1 with | none => Rs.stuck | some ρ2 => if notIo (ρ2[j]?) = true then .ok .nx (ρ2.set j (.own mu)) else .stuck)) : E.nx ((σ.set i (some v)).set j (some (.ref c))) (upd H1 c o) := by
  cases q : setO i x ρ1 with
  | none => rw [q] at h; exact h.elim
  | some ρ2 =>
    rw [q] at h
    have h : HoldS F W O1 H1 E (if notIo (ρ2[j]?) = true then .ok .nx (ρ2.set j (.own mu)) else .stuck) := h
    split at h
    · rename_i nj
      have R3 := setO_rel R R1 rv q
      have g := Grow.new (o := o) hc
      have R4 := R3.guard g hc (by rw [upd_same]; simp)
      have R5 := R4.setO (i := j) (hm _) (.inr rfl) (R3.freshE hc) (R3.apart hc) nj
      exact h _ _ _ (ins_step g hc) R5
    · exact h.elim
theorem pms_parL {i j : Nat} {px py pt p1 : Pos} {kt k2 pt2} (hc : X.calm = true) (hN : X.N.Nodup) (hi : X.N[i]? = some x) (hj : X.N[j]? = some y) (hij : i ≠ j) (hx : X.env.scope.names.lookup x = some .local) (hy : X.env.scope.names.lookup y = some .local) (ha : PM X w W a m)
    (hw : swappedStores [.Tuple [.Name x px, .Name y py] kt pt] (.Tuple [a, .List [] p1] k2 pt2) X.env = pure (some [x, y])) (hs : swapsWithSole [.Tuple [.Name x px, .Name y py] kt pt] (.Tuple [a, .List [] p1] k2 pt2) pos.line X.env = pure false := by rfl)
    (he : starEach [a, .List [] p1] X.env = (false, eval a X.env) :: starEach [.List [] p1] X.env := by rfl) :
    PMS X w W (.Assign [.Tuple [.Name x px, .Name y py] kt pt] (.Tuple [a, .List [] p1] k2 pt2) pos) (mPar0 i j (.lst []) m) := by
  obtain ⟨t, pa, sa⟩ := ha
  refine ⟨_, ps_par hc hN hi hj hij hx hy (pa_cons pa (pa_cons (pe_lst pa_nil) pa_nil) he) hw hs, fun F O ρ σ H E hw R hh => ?_⟩
  subst hw
  refine sa.bindS rfl R hh fun z v ρ1 O1 H1 st1 R1 rv h1 => ?_
  refine ⟨by show 0 ≤ sizeLine; exact Nat.zero_le _, fun c f => ⟨_, _, rfl, ?_⟩⟩
  exact par_end (mu := .lst []) R st1 R1 rv f (fun O' => ⟨[], upd_same, by simp only [RepL]⟩) h1
end
end PM

/-! tuple(d.items()) -/
namespace PM
open PySem PySem.Spec PyProof.Rows L2
section
variable {X : Cx} {pins : List (Addr × Obj)} {σ : L2.St} {H : Hp} {s : Shared} {d : Addr} {kvs : List (Key × V)}
end
section
variable {prog : Program} {w : World} {A : Around} {E : Value → Shared → Prop} {s : Shared} {r d : Addr} {kvs : List (Key × Value)} {ep : Nat}
end
section
variable {X : Cx} {e : Expr} {te : TE} {p apos cpos pos : Pos} {n : String}
end
end PM

/-! error classes without an own __init__: what the top must have written; {k: v}; items as data -/
namespace PM
open PySem PySem.Spec PyProof.Rows L2
open PySem.W (Frag findIn typeIn subIn keepIn excIn exmOne)
structure Err0 (K : Frag) (c : Addr) (newId : String) (bmB : List Value) : Prop where
  exc : excIn K c bmB newId = true
  keep : keepIn K (.ref c) = true
  sub : subIn K (.ref c) (.type "BaseException") = some true
  ty : typeIn K (.ref c) = some (.type "type")
  me : exmOne K (.ref c) (.ref c) = some true
def err0B (C : Str) (newId : String) (bmB : List Value) : Chk := fun K => excIn K (He.ga K C) bmB newId && (keepIn K (.ref (He.ga K C)) && (obB (subIn K (.ref (He.ga K C)) (.type "BaseException")) (some true) && (decide (typeIn K (.ref (He.ga K C)) = some (.type "type")) && obB (exmOne K (.ref (He.ga K C)) (.ref (He.ga K C))) (some true))))
theorem err0B_ok {K : Frag} {C : Str} {newId : String} {bmB : List Value} (h : err0B C newId bmB K = true) : Err0 K (He.ga K C) newId bmB := by
  obtain ⟨h1, h⟩ := b2' h
  obtain ⟨h2, h⟩ := b2' h
  obtain ⟨h3, h⟩ := b2' h
  obtain ⟨h4, h5⟩ := b2' h
  exact ⟨h1, h2, of_decide_eq_true h3, of_decide_eq_true h4, of_decide_eq_true h5⟩
section
variable {w : Wd} {W : WX} {X : Cx} {c j : Nat} {x m : Str} {p p2 pos pos' apos cpos : Pos} {B newId initId : String} {bmB : List Value} {e k v : Expr} {me mk mv : ME}
theorem pms_raiseE (hK : w.K = X.K) (tk : Takes X W) (F : ExcBaseFacts B newId initId bmB) (q : Err0 w.K (w.cl c) newId bmB) (hg : Gl X x) (gC : X.mg x = some (.ref (w.cl c))) (hc : X.calm = true := by rfl) (hdb : (x == ("__debug__" : Str)) = false := by decide) :
    PMS X w W (.Raise (some (.Call (.Name x p) [.Constant (.str m) j p2] [] pos)) none pos') (mRaise0 c) :=
  pms_raise0 tk F (hK ▸ q.exc) (hK ▸ q.keep) (raises_own (hK ▸ q.sub) (hK ▸ q.ty)) hg gC hc hdb
/-! ### list(d.items()), tuple(d.items()) -/
end
/-! ### {k: v, ..}, keys and values that change nothing -/
section
variable {w : Wd} {W : WX} {X : Cx} {x z : Str} {p pos : Pos} {j : Nat}
end
end PM

/-! exceptions as values: made, asked by isinstance, their fields read -/
namespace PM
open PySem PySem.Spec PyProof.Rows L2
open PySem.W (Frag findIn typeIn subIn keepIn excIn exmOne clsIn specialIn takesIn mroIn hasDictIn kitOne)
/-- what is known of a class of errors whose instances are asked -/
structure XcK (K : Frag) (C : Addr) : Prop where
  cl : (clsIn K C).isSome = true
  ga : findIn K (.ref C) "__getattribute__" = some (some (.builtin "BaseException.__getattribute__"))
  gg : findIn K (.ref C) "__getattr__" = some none
  sb : subIn K (.ref C) (.type "BaseException") = some true
  ca : findIn K (.ref C) "__class__" = some (some (.builtin "object.__class__"))
  sp : specialIn K (.builtin "object.__class__") "__get__" = some (some (.builtin "getset_descriptor.__get__"))
  tk : takesIn K (.builtin "object.__class__") = some true
  mr : mroIn K C (.type "object") = some true
  hd : hasDictIn K C = true
section
variable {X : Cx}
end
/-! ### as data -/
section
variable {w : Wd} {W : WX} {X : Cx} {c j : Nat} {x m0 fld : Str} {p p2 pos pos' : Pos} {B newId initId : String} {bmB : List Value} {e : Expr} {m : ME} {te : TE}
end
end PM

/-! a comprehension over a dict: the dict is locked meanwhile -/
namespace PM
open PySem L2
/-- as before, but dicts may be locked or not -/
structure Sw (O : Av) (H H' : Hp) : Prop where
  oth : ∀ a u, ¬ O a → H a = some u → (∀ k, u ≠ .dK k) → (∀ o k, u ≠ .frz o (.dK k)) → H' a = some u
  dk : ∀ a k, ¬ O a → Rd H a (.dK k) → Rd H' a (.dK k)
section
variable {w : Wd} {O : Av} {H H' : Hp}
theorem Sw.at (s : Sw O H H') {a : Addr} {u : HO} (h : At O H a u) (h1 : ∀ k, u ≠ .dK k) (h2 : ∀ o k, u ≠ .frz o (.dK k)) : At O H' a u := ⟨h.1, s.oth a u h.1 h.2 h1 h2⟩
end
section
variable {F : Fr} {O : Av} {ρ : En} {σ : St} {H : Hp} {d : Addr} {kvs : List (Key × V)} {od : Obj}
end
/-! ### either way -/
theorem keysD_len' : ∀ {ks : List D} {kk : List Key}, keysD ks kk → kk.length = ks.length
  | [], kk, h => by
    have h : kk = [] := h
    subst h
    rfl
  | k :: ks, kk, h => by
    obtain ⟨k1, ks1, rfl, e1, h⟩ := h
    simp [keysD_len' h]
section
variable {w : Wd} {W : WX} {X : Cx} {pos spos py pd : Pos} {elt tg : Expr} {ifs : List Expr} {scope : Scope} {own : List (Str × Nat)} {g : MG} {js : List Nat} {mt : MT} {me : ME} {x : Str}
end
end PM

/-! repr of data in which dicts stand -/
namespace PM
open PySem PySem.Spec PyProof.Rows L2
def keyPys : List D → Option (List PyData)
  | [] => some []
  | .int i :: r => (keyPys r).map (.int i :: ·)
  | .str x :: r => (keyPys r).map (.str x :: ·)
  | _ => none
mutual
def pyX : D → Option PyData
  | .non => some .none
  | .bl b => some (.bool b)
  | .int i => some (.int i)
  | .str x => some (.str x)
  | .tup ds => (pyXs ds).map .tuple
  | .lst ds => (pyXs ds).map .list
  | .dct ks ds => (pyXs ds).bind fun ps => (keyPys ks).map fun qs => .dict (qs.zip ps)
  | .obj _ _ => none
  | .scr _ => none
  | .cls _ => none
  | .exn _ _ _ => none
  | .set _ => none
  | .dkf _ _ => none
  | .dkt _ _ => none
  | .rcd _ _ _ => none
  | .lam _ => none
def pyXs : List D → Option (List PyData)
  | [] => some []
  | d :: ds => (pyX d).bind fun p => (pyXs ds).map (p :: ·)
end
section
variable {X : Cx} {pins : List (Addr × Obj)} {σ : L2.St} {H : Hp} {s : Shared} {w : Wd} {O : Av}
theorem not_sys (I : Inv X pins σ H s) (hs : (X.K.lookup sysModules).isSome = true) {a : Addr} {o : HO} (h : H a = some o) : a ≠ sysModules := fun z => by
  obtain ⟨ob, e⟩ := Option.isSome_iff_exists.mp hs
  have := (I.bs _ _ (I.ok.mod.kin _ _ e)).2
  rw [z, this] at h
  cases h
theorem reads_keys : ∀ {ks : List D} {kk : List Key} {qs : List PyData} {es : List DictEntry} {vs : List (Key × Value)} {h : Heap}, keysD ks kk → keyPys ks = some qs → vs.map (·.1) = kk → Pairs (mixKind X.prog X.w) es vs → ReadsAll h (es.map (·.key)) qs []
  | [], kk, qs, es, vs, h, hk, hq, hv, hp => by
    cases hq
    have hk : kk = [] := hk
    rw [hk] at hv
    have : vs = [] := List.map_eq_nil_iff.mp hv
    subst this
    cases hp
    exact .nil
  | k :: ks, kk, qs, es, vs, h, hk, hq, hv, hp => by
    obtain ⟨k1, ks1, rfl, e1, hk⟩ := hk
    cases hp with
    | nil => cases hv
    | cons h1 h2 h3 =>
      rename_i e kv es kvs
      simp only [List.map_cons, List.cons.injEq] at hv
      obtain ⟨hv1, hv2⟩ := hv
      have rk : RelV (kV kv.1) e.key := relV_key (show keyIs kv.1 e.key = true from h1)
      rw [hv1] at rk
      cases k with
      | int i =>
        cases e1
        simp only [keyPys] at hq
        cases q : keyPys ks with
        | none => rw [q] at hq; cases hq
        | some qs' =>
          rw [q] at hq
          cases hq
          obtain ⟨t, ek⟩ : ∃ t, e.key = .int i t := rk
          have := ReadsAll.cons (Reads.int i t) (reads_keys (h := h) hk q hv2 h3)
          rw [List.map_cons, ek]
          exact this
      | str x =>
        cases e1
        simp only [keyPys] at hq
        cases q : keyPys ks with
        | none => rw [q] at hq; cases hq
        | some qs' =>
          rw [q] at hq
          cases hq
          obtain ⟨t, ek⟩ : ∃ t, e.key = .str x t := rk
          have := ReadsAll.cons (Reads.str x t) (reads_keys (h := h) hk q hv2 h3)
          rw [List.map_cons, ek]
          exact this
      | _ => cases e1
theorem keyPys_len : ∀ {ks : List D} {qs : List PyData}, keyPys ks = some qs → qs.length = ks.length
  | [], qs, h => by cases h; rfl
  | .int i :: ks, qs, h => by
    simp only [keyPys] at h
    cases q : keyPys ks with
    | none => rw [q] at h; cases h
    | some r => rw [q] at h; cases h; simp [keyPys_len q]
  | .str i :: ks, qs, h => by
    simp only [keyPys] at h
    cases q : keyPys ks with
    | none => rw [q] at h; cases h
    | some r => rw [q] at h; cases h; simp [keyPys_len q]
  | .non :: ks, qs, h => by cases h
  | .bl _ :: ks, qs, h => by cases h
  | .tup _ :: ks, qs, h => by cases h
  | .lst _ :: ks, qs, h => by cases h
  | .dct _ _ :: ks, qs, h => by cases h
  | .obj _ _ :: ks, qs, h => by cases h
  | .scr _ :: ks, qs, h => by cases h
  | .cls _ :: ks, qs, h => by cases h
  | .exn _ _ _ :: ks, qs, h => by cases h
  | .set _ :: ks, qs, h => by cases h
  | .dkf _ _ :: ks, qs, h => by cases h
  | .dkt _ _ :: ks, qs, h => by cases h
  | .rcd _ _ _ :: ks, qs, h => by cases h
  | .lam _ :: ks, qs, h => by cases h
theorem pyXs_len : ∀ {ds : List D} {ps : List PyData}, pyXs ds = some ps → ps.length = ds.length
  | [], ps, h => by simp only [pyXs] at h; cases h; rfl
  | d :: ds, ps, h => by
    simp only [pyXs] at h
    cases q : pyX d with
    | none => rw [q] at h; cases h
    | some p =>
      rw [q] at h
      simp only [Option.bind_some] at h
      cases q2 : pyXs ds with
      | none => rw [q2] at h; cases h
      | some r => rw [q2] at h; cases h; simp [pyXs_len q2]
theorem kv_vals : ∀ {kvs : List (Key × V)} {vs : List (Key × Value)}, KV kvs vs → kvs.map (·.1) = vs.map (·.1) ∧ Vals (kvs.map (·.2)) (vs.map (·.2))
  | _, _, .nil => ⟨rfl, .nil⟩
  | _, _, .cons h t => by
    obtain ⟨h1, h2⟩ := kv_vals t
    exact ⟨by simp [h.1, h1], .cons h.2 h2⟩
theorem pairs_vals {es : List DictEntry} {vs : List (Key × Value)} (h : Pairs (mixKind X.prog X.w) es vs) : es.map (·.val) = vs.map (·.2) := by
  induction h with
  | nil => rfl
  | cons h1 h2 h3 ih => simp [h2, ih]
mutual
theorem reads_rep (I : Inv X pins σ H s) (hs : (X.K.lookup sysModules).isSome = true) (hK : w.K = X.K) : ∀ (d : D) (v : V) (p : PyData) (u : Value), Rep w O H d v → pyX d = some p → RelV v u → ∃ as, Reads s.heap u p as ∧ sysModules ∉ as
  | .non, v, p, u, h, e, r => by
    simp only [Rep] at h
    simp only [pyX] at e
    cases e; subst h; cases r
    exact ⟨_, Reads.none, by simp⟩
  | .bl b, v, p, u, h, e, r => by
    simp only [Rep] at h
    simp only [pyX] at e
    cases e; subst h; cases r
    exact ⟨_, Reads.bool b, by simp⟩
  | .int b, v, p, u, h, e, r => by
    simp only [Rep] at h
    simp only [pyX] at e
    cases e; subst h
    obtain ⟨t, rfl⟩ := r
    exact ⟨_, Reads.int b t, by simp⟩
  | .str b, v, p, u, h, e, r => by
    simp only [Rep] at h
    simp only [pyX] at e
    cases e; subst h
    obtain ⟨t, rfl⟩ := r
    exact ⟨_, Reads.str b t, by simp⟩
  | .tup ds, v, p, u, h, e, r => by
    simp only [Rep] at h
    simp only [pyX] at e
    obtain ⟨a, vs, rfl, h1, h2⟩ := h
    cases q : pyXs ds with
    | none => rw [q] at e; cases e
    | some ps =>
      rw [q] at e
      cases e
      cases r
      obtain ⟨its, rv, ⟨o, ho, hc, n, hd⟩, _⟩ := I.tuple (hK ▸ sq_of_rep h1)
      obtain ⟨as, hr, hn⟩ := reads_reps I hs hK ds vs ps its h2 q rv
      exact ⟨_, Reads.tuple ho hc hd hr, hn⟩
  | .lst ds, v, p, u, h, e, r => by
    simp only [Rep] at h
    simp only [pyX] at e
    obtain ⟨a, vs, rfl, h1, h2⟩ := h
    cases q : pyXs ds with
    | none => rw [q] at e; cases e
    | some ps =>
      rw [q] at e
      cases e
      cases r
      obtain ⟨its, rv, ⟨o, n, ho, hc, _, hd⟩, _⟩ := I.list (by rw [← hK]; exact sl_of_rep h1)
      obtain ⟨as, hr, hn⟩ := reads_reps I hs hK ds vs ps its h2 q rv
      refine ⟨_, Reads.list ho hc hd hr, fun z => ?_⟩
      rcases List.mem_cons.mp z with z | z
      · exact not_sys I hs h1.2 z.symm
      · exact hn z
  | .dct ks ds, v, p, u, h, e, r => by
    simp only [Rep] at h
    simp only [pyX] at e
    obtain ⟨a, kvs, rfl, h1, hk, h2⟩ := h
    cases q : pyXs ds with
    | none => rw [q] at e; cases e
    | some ps =>
      rw [q] at e
      simp only [Option.bind_some] at e
      cases q2 : keyPys ks with
      | none => rw [q2] at e; cases e
      | some qs =>
        rw [q2] at e
        cases e
        cases r
        have x : ObjOk X.prog X.w H s.heap a (.dK kvs) := h1.elim (fun q => I.hok a _ q.2) (fun ⟨o, q⟩ => (I.hok a _ q.2).2)
        obtain ⟨_, sy, vs, kv, o, es, ep, ho, hx, hd, _, hp, _⟩ := x
        obtain ⟨k1, k2⟩ := kv_vals kv
        obtain ⟨bs, hr, hn⟩ := reads_reps I hs hK ds (kvs.map (·.2)) ps (vs.map (·.2)) h2 q k2
        have rk := reads_keys (X := X) (h := s.heap) hk q2 k1.symm hp
        have l1 := keyPys_len q2
        have l2 := pyXs_len q
        have l3 := keysD_len' hk
        have l4 := h2.length
        rw [List.length_map] at l3 l4
        have z1 : (qs.zip ps).map (·.1) = qs := List.map_fst_zip (by omega)
        have z2 : (qs.zip ps).map (·.2) = ps := List.map_snd_zip (by omega)
        refine ⟨_, Reads.dict (kvs := qs.zip ps) (as := []) (bs := bs) ho hx.1 hd (by rw [z1]; exact rk) (by rw [z2, pairs_vals hp]; exact hr), fun z => ?_⟩
        rcases List.mem_cons.mp (show sysModules ∈ a :: bs from z) with z | z
        · exact (beq_eq_false_iff_ne.mp sy) z.symm
        · exact hn z
  | .obj _ _, v, p, u, h, e, r => by simp only [pyX] at e; cases e
  | .scr _, v, p, u, h, e, r => by simp only [pyX] at e; cases e
  | .cls _, v, p, u, h, e, r => by simp only [pyX] at e; cases e
  | .exn _ _ _, v, p, u, h, e, r => by simp only [pyX] at e; cases e
  | .set _, v, p, u, h, e, r => by simp only [pyX] at e; cases e
  | .dkf _ _, v, p, u, h, e, r => by simp only [pyX] at e; cases e
  | .dkt _ _, v, p, u, h, e, r => by simp only [pyX] at e; cases e
  | .rcd _ _ _, v, p, u, h, e, r => by simp only [pyX] at e; cases e
  | .lam _, v, p, u, h, e, r => by simp only [pyX] at e; cases e
theorem reads_reps (I : Inv X pins σ H s) (hs : (X.K.lookup sysModules).isSome = true) (hK : w.K = X.K) : ∀ (ds : List D) (vs : List V) (ps : List PyData) (us : List Value), RepL w O H ds vs → pyXs ds = some ps → Vals vs us → ∃ as, ReadsAll s.heap us ps as ∧ sysModules ∉ as
  | [], vs, ps, us, h, e, r => by
    simp only [RepL] at h
    simp only [pyXs] at e
    cases e; subst h; cases r
    exact ⟨_, ReadsAll.nil, by simp⟩
  | d :: ds, vs, ps, us, h, e, r => by
    simp only [RepL] at h
    simp only [pyXs] at e
    obtain ⟨v, vs', rfl, h1, h2⟩ := h
    cases q : pyX d with
    | none => rw [q] at e; cases e
    | some p =>
      rw [q] at e
      simp only [Option.bind_some] at e
      cases q2 : pyXs ds with
      | none => rw [q2] at e; cases e
      | some ps' =>
        rw [q2] at e
        cases e
        cases r with
        | cons r1 r2 =>
          obtain ⟨as, x1, y1⟩ := reads_rep I hs hK d v p _ h1 q r1
          obtain ⟨bs, x2, y2⟩ := reads_reps I hs hK ds vs' ps' _ h2 q2 r2
          exact ⟨_, ReadsAll.cons x1 x2, fun z => (List.mem_append.mp z).elim y1 y2⟩
end
end
def reprX (x : D) : Option Vl := (pyX x).bind fun p => if p.showable = true ∧ p.depth < 64 ∧ p.shown.length ≤ sizeLine then some (dS p.shown) else none
def rReprX (K : PySem.W.Frag) : List V → Hp → VK → Prop := fun xs H Q => ∃ (w : Wd) (O : Av) (d : D) (p : PyData) (v : V), w.K = K ∧ xs = [v] ∧ Rep w O H d v ∧ pyX d = some p ∧ p.showable = true ∧ p.depth < 64 ∧ p.shown.length ≤ sizeLine ∧ Q (.str p.shown) H
theorem call_reprX {X : Cx} (hs : (X.K.lookup sysModules).isSome = true) (hgu : X.A.guards = some []) (hu : X.A.units + 64 < cLine) : CallR X (.builtin "repr") (rReprX X.K) := by
  intro pins s σ H xs us Q I r h
  obtain ⟨w, O, d, p, v, hK, rfl, hd, hp, h1, h2, h3, q⟩ := h
  obtain ⟨u, rfl, ru⟩ := vals1 r
  obtain ⟨as, rd, ns⟩ := reads_rep I hs hK d v p u hd hp ru
  have fin : ∀ (h' : Heap) (u : Tok) (tk : Nat), (∀ b o, s.heap.get? b = some o → h'.get? b = some o) → EP X pins σ Q (.str p.shown u) { s with heap := h', toks := tk } := fun h' u tk hk => ⟨.str _, H, I.kept hk, ⟨_, rfl⟩, q⟩
  cases rd with
  | none => exact PySem.P.repr_of_none (by simpa only [PyData.shown] using fin s.heap s.toks (s.toks + 1) fun _ _ e => e)
  | bool b => exact PySem.P.repr_of_bool (by simpa only [PyData.shown] using fin s.heap s.toks (s.toks + 1) fun _ _ e => e)
  | int i t => exact PySem.P.repr_of_int (by simpa [PyData.showable] using h1) (by simpa only [PyData.shown] using fin s.heap s.toks (s.toks + 1) fun _ _ e => e)
  | str z t => exact PySem.P.repr_of_str (by simpa only [PyData.shown] using fin s.heap s.toks (s.toks + 1) fun _ _ e => e) (by simpa only [PyData.shown] using h3)
  | list a1 a2 a3 a4 => exact repr_of_reads' (.list a1 a2 a3 a4) h1 (fun _ => ns) hgu (by omega) (fun _ _ e => e) fin h3
  | tuple a1 a2 a3 a4 => exact repr_of_reads' (.tuple a1 a2 a3 a4) h1 (fun _ => ns) hgu (by omega) (fun _ _ e => e) fin h3
  | dict a1 a2 a3 a4 a5 => exact repr_of_reads' (.dict a1 a2 a3 a4 a5) h1 (fun _ => ns) hgu (by omega) (fun _ _ e => e) fin h3
section
variable {w : Wd} {W : WX} {X : Cx} {pos p : Pos} {mr : MA} {e : Expr}
end
end PM

/-! try whose clauses know that the exception has no context; raise there; x, y, z = a, b, c -/
namespace PM
open PySem PySem.Spec PyProof.Rows L2
inductive HdM (X : Cx) (n : Str) : List ExceptHandler → List Cl → Prop
  | nil : HdM X n [] []
  | cons {x : Str} {q : Cl} {st : Stmt} {su : List Stmt} {np ps : Pos} {hs : List ExceptHandler} {l : List Cl} (nm : Names X x q.1)
      (ok : ∀ (a : Addr) (oe : Obj) (cls : Value) (d : Option Addr) (pn : List (Addr × Obj)), L2N.Zn cls d oe → (∃ vs, oe.data = .fields vs) → PSs (X.suite a ((a, oe) :: pn)) (st :: su) (q.2 a cls d)) (r : HdM X n hs l) :
      HdM X n (.ExceptHandler (some (.Name x np)) (some n) (st :: su) ps :: hs) (q :: l)
section
variable {X : Cx} {n : Str} {i : Nat} {body : List Stmt} {hd : ExceptHandler} {hs : List ExceptHandler} {l : List Cl} {pos : Pos} {tb : WX → TS}
end

section
open Builtin Builtin.ObjectAttr
variable {X : Cx} {C : Addr} {fld x : Str} {e : Expr} {te : TE} {p pos : Pos}
end
section
variable {w : Wd} {W : WX} {X : Cx} {c j : Nat} {x m0 fld : Str} {p p2 pos pos' : Pos} {B newId initId : String} {bmB : List Value} {e : Expr} {m : ME}
end
/-! ### x, y, z = a, b, c -/
def mPar3 (i j l : Nat) (mr : MA) : MS := fun ρ => (mr ρ).bind fun xs ρ1 => match xs with
  | [x, y, z] => nxt ((setV i x ρ1).bind fun ρ2 => (setV j y ρ2).bind fun ρ3 => setV l z ρ3)
  | _ => .stuck
theorem pms_par3 {w : Wd} {W : WX} {X : Cx} {pos : Pos} {a b c : Expr} {mr : MA} {i j l : Nat} {x y z : Str} {px py pz pt : Pos} {kt k2 pt2} (hc : X.calm = true) (hN : X.N.Nodup) (hi : X.N[i]? = some x) (hj : X.N[j]? = some y) (hl : X.N[l]? = some z) (hij : i ≠ j) (hil : i ≠ l) (hjl : j ≠ l)
    (hx : X.env.scope.names.lookup x = some .local) (hy : X.env.scope.names.lookup y = some .local) (hz : X.env.scope.names.lookup z = some .local) (ha : PMA X w W [a, b, c] mr)
    (hw : swappedStores [.Tuple [.Name x px, .Name y py, .Name z pz] kt pt] (.Tuple [a, b, c] k2 pt2) X.env = pure (some [x, y, z])) (hs : swapsWithSole [.Tuple [.Name x px, .Name y py, .Name z pz] kt pt] (.Tuple [a, b, c] k2 pt2) pos.line X.env = pure false := by rfl) :
    PMS X w W (.Assign [.Tuple [.Name x px, .Name y py, .Name z pz] kt pt] (.Tuple [a, b, c] k2 pt2) pos) (mPar3 i j l mr) := by
  obtain ⟨t, pa, sa⟩ := ha
  refine ⟨_, ps_par3 hc hN hi hj hl hij hil hjl hx hy hz pa hw hs, fun F O ρ σ H E hw R hh => ?_⟩
  subst hw
  refine sa.bindS rfl R hh fun xs vs ρ1 O1 H1 st1 R1 rs h1 => ?_
  split at h1
  · rename_i d1 d2 d3
    simp only [RepL] at rs
    obtain ⟨v, _, rfl, r1, u, _, rfl, r2, t, _, rfl, r3, rfl⟩ := rs
    cases q1 : setV i d1 ρ1 with
    | none => rw [q1] at h1; exact h1.elim
    | some ρ2 =>
      rw [q1] at h1
      have h1 : HoldS F W O1 H1 E (nxt ((setV j d2 ρ2).bind fun ρ3 => setV l d3 ρ3)) := h1
      cases q2 : setV j d2 ρ2 with
      | none => rw [q2] at h1; exact h1.elim
      | some ρ3 =>
        rw [q2] at h1
        have h1 : HoldS F W O1 H1 E (nxt (setV l d3 ρ3)) := h1
        cases q3 : setV l d3 ρ3 with
        | none => rw [q3] at h1; exact h1.elim
        | some ρ4 =>
          rw [q3] at h1
          exact ⟨v, u, t, rfl, h1 O1 _ H1 (Step.refl _ _) (setV_rel (setV_rel (setV_rel R1 r1 q1) r2 q2) r3 q3)⟩
  · exact h1.elim
end PM

/-! a def called with the exception that is handled -/
namespace PM
open PySem PySem.Spec PyProof.Rows L2 L2H HotX
/-- the same, with the exception at a under the number 99 -/
abbrev Wd.pin (w : Wd) (a : Addr) : Wd := ⟨w.K, fun n => if n = 99 then a else w.cl n, w.wo, w.T, w.lo⟩
/-- f(e), e the exception that is handled, of class D: the text z -/
structure FnE (P : Program) (wo : World) (K : PySem.W.Frag) (mg : Str → Option Value) (base : Heap) (k : Nat) (f : Addr) (fd : FuncData) (v : Str) (D : Addr) (z : Str) : Prop where
  run : ∀ (A : Around) (outer : List Env) (s : Shared) (H : Hp) (args : Args) (Q : VK) (E : XK) (p : Addr × Obj), RoomH k A → Hot1 A p → PinOk outer H s p → Zc (.ref D) none p.2 → Env0 P wo K mg base A outer s H → BindsTo s fd args [(v, .ref p.1)] → (∀ H', Grow H H' → Q (.str z) H') →
    codeAny (model P wo) A (.call (.ref f) args) (CR CX0 outer P wo H s Q E) s
section
variable {P : Program} {wo : World} {K : PySem.W.Frag} {mg : Str → Option Value} {base : Heap} {w : Wd} {x qual v z : Str} {st : Stmt} {f D : Addr} {fd : FuncData} {N : List Str} {k : Nat} {m : MS}
end
section
variable {X : Cx} {k i : Nat} {f D a : Addr} {oe : Obj} {pn : List (Addr × Obj)} {fd : FuncData} {v x n z : Str} {q r pos : Pos}
end
end PM

/-! try: .. / except A as e: return z0 + f(e) / except B as e: return z1 + repr(e.f1) / except C as e: return z2 + repr(e.f2) -/
namespace PM
open PySem PySem.Spec PyProof.Rows L2 L2H HotX
open PySem.W (exmOne findIn)
/-- one reading of statements for a meaning -/
def tsOf (w : Wd) (W : WX) (m : MS) : TS := fun E σ H => ∃ (F : Fr) (O : Av) (ρ : En), F.w = w ∧ Rel F O ρ σ H ∧ HoldS F W O H E (m ρ)
theorem PMSs.ps {X : Cx} {w : Wd} {W : WX} {b : List Stmt} {m : MS} (h : PMSs X w W b m) : PSs X b (tsOf w W m) := by
  obtain ⟨t, p, s⟩ := h
  exact ⟨fun pins s0 σ H D I ⟨F, O, ρ, hw, R, hh⟩ => p.run pins s0 σ H D I (s F O ρ σ H D hw R hh)⟩
def repTxt (z : Str) (d : D) : Option Str := match reprX d with
  | some (.str s, false) => if z.length + s.length ≤ sizeLine then some (z ++ s) else none
  | _ => none
section
variable {X : Cx} {i k : Nat} {C a f0 : Addr} {oe : Obj} {cls : Value} {d : Option Addr} {pn : List (Addr × Obj)} {f z z0 zz n x v : Str} {fd : FuncData} {q0 q1 q2 q3 q4 q5 q6 q7 : Pos} {j : Nat}
end
section
variable {w : Wd} {X : Cx} {i k c0 c1 c2 : Nat} {CS f0 : Addr} {fd : FuncData} {n x v z0 zz f1 z1 f2 z2 x0 x1 x2 : Str} {body : List Stmt} {mb : MS} {j0 j1 j2 : Nat}
  {a0 a1 a2 a3 a4 a5 a6 a7 b0 b1 b2 b3 b4 b5 b6 b7 b8 d0 d1 d2 d3 d4 d5 d6 d7 d8 pl : Pos}
end
end PM

/-! tables of classes of errors; KeyError as a base -/
namespace PM
open PySem PySem.Spec PyProof.Rows L2
open PySem.W (Frag findIn typeIn subIn keepIn excIn exmOne kitOne)
def sysB : Chk := fun K => (K.lookup sysModules).isSome
end PM
namespace PM
open PySem PySem.Spec PyProof.Rows L2
theorem newF_of {B newId i : String} {bmB : List Value} (F : ExcBaseFacts B newId i bmB) : ∃ (B0 init0 : String) (bm0 : List Value), ExcBaseFacts B0 newId init0 bm0 ∧ LineF B0 bmB := ⟨B, i, bmB, F, F.hasB, F.noAttr, F.noName⟩
end PM

/-! a text once or not at all; an int as a key or value of a display -/
namespace PM
open PySem PySem.Spec PyProof.Rows L2
section
variable {w : Wd} {W : WX} {X : Cx} {pos p : Pos} {a b e : Expr} {ma mb : ME} {mr : MA}
end
end PM

/-! whole numbers in {k: v}; a place in a table -/
namespace PM
open PySem PySem.Spec PyProof.Rows L2
end PM

/-! PMHook: as hookM, but what is seen of the heap is found with a mask of bits, and laid out once. -/
namespace PM
open PySem PySem.Spec PyProof.Rows L2
open HandSHeadRun (frNat frNat_eq)
/-- those not seen yet, put ahead of the new ones -/
def visB {α : Type} : List Addr → List Addr → Nat → (List Addr → Nat → α) → α
  | [], acc, m, k => k acc m
  | a :: r, acc, m, k => frNat a fun a => match Nat.beq (Nat.mod (Nat.shiftRight m a) 2) 0 with
    | true => frNat (Nat.lor m (Nat.shiftLeft 1 a)) fun m => visB r (a :: acc) m k
    | false => visB r acc m k
def levB {α : Type} (g : Addr → Option Obj) : List Addr → List Addr → Nat → (List Addr → Nat → α) → α
  | [], acc, m, k => k acc m
  | a :: r, acc, m, k => match g a with
    | some o => visB (He.refsD o) acc m fun acc m => levB g r acc m k
    | none => levB g r acc m k
def bfsB (g : Addr → Option Obj) : Nat → List Addr → List Addr → Nat → List Addr
  | 0, _, all, _ => all
  | n + 1, fr, all, m => levB g fr [] m fun new m => bfsB g n new (all ++ new) m
def asBf (g : Addr → Option Obj) (n : Nat) : List Addr := visB [mainGlobals, cStatics] [] 0 fun acc m => bfsB g n acc acc m
/-- laid out -/
def forceK {α : Type} : List (Addr × Obj) → (List (Addr × Obj) → α) → α
  | [], k => k []
  | (a, o) :: r, k => forceK r fun r' => k ((a, o) :: r')
theorem forceK_eq {α : Type} : ∀ (l : List (Addr × Obj)) (k : List (Addr × Obj) → α), forceK l k = k l
  | [], k => rfl
  | (a, o) :: r, k => by
    show forceK r (fun r' => k ((a, o) :: r')) = _
    rw [forceK_eq r]
end PM

/-! a def that may raise, called where it raises nothing -/
namespace PM
open PySem PySem.Spec PyProof.Rows L2
section
variable {P : Program} {wo : World} {K : PySem.W.Frag} {mg : Str → Option Value} {base : Heap} {w : Wd} {n j : Nat} {f : Fn}
end
end PM

/-! defs below which tables of code objects grow -/
namespace PM
open PySem PySem.Spec PyProof.Rows L2
/-- with tables -/
abbrev Wd.wT (w : Wd) (T : List (Addr × Str)) : Wd := ⟨w.K, w.cl, w.wo, T, w.lo⟩
section
variable {w : Wd} {T : List (Addr × Str)} {O : Av} {H : Hp}
mutual
theorem rep_T : ∀ (d : D) (v : V), Rep (w.wT T) O H d v ↔ Rep w O H d v
  | .non, v => by simp only [Rep]
  | .bl _, v => by simp only [Rep]
  | .int _, v => by simp only [Rep]
  | .str _, v => by simp only [Rep]
  | .cls _, v => by simp only [Rep]
  | .tup ds, v => by simp only [Rep, repL_T ds]
  | .lst ds, v => by simp only [Rep, repL_T ds]
  | .dct ks ds, v => by simp only [Rep, repL_T ds]
  | .obj c fs, v => by simp only [Rep, repL_T fs]
  | .scr ds, v => by simp only [Rep, repL_T ds]
  | .exn c ns ds, v => by simp only [Rep, repL_T ds]
  | .dkt ks ds, v => by simp only [Rep, repL_T ks, repL_T ds]
  | .rcd c ns ds, v => by simp only [Rep, repL_T ds]
  | .lam k, v => by simp only [Rep]
  | .set xs, v => by simp only [Rep]
  | .dkf ks ds, v => by simp only [Rep, repL_T ks, repL_T ds]
theorem repL_T : ∀ (ds : List D) (vs : List V), RepL (w.wT T) O H ds vs ↔ RepL w O H ds vs
  | [], vs => by simp only [RepL]
  | d :: ds, vs => by simp only [RepL, rep_T d, repL_T ds]
end
theorem repO_T : ∀ (ds : List (Option D)) (vs : List (Option V)), RepO (w.wT T) O H ds vs ↔ RepO w O H ds vs
  | [], vs => by simp only [RepO]
  | none :: ds, vs => by simp only [RepO, repO_T ds]
  | some d :: ds, vs => by simp only [RepO, rep_T d, repO_T ds]
theorem muAt_T {a : Addr} : ∀ (m : Mu), MuAt (w.wT T) O H a m ↔ MuAt w O H a m
  | .lst ds => by simp only [MuAt, repL_T]
  | .dct ks ds => by simp only [MuAt, repL_T]
  | .ins c fs => by simp only [MuAt, repO_T]
  | .dkt ks ds => by simp only [MuAt, repL_T]
  | .rcd c ns ds => by simp only [MuAt, repL_T]
theorem xcAt_T {cls : Value} {d : Option Addr} : ∀ (x : Xc), XcAt (w.wT T) O H cls d x ↔ XcAt w O H cls d x
  | .own c [] => Iff.rfl
  | .own c (f :: fs) => by simp only [XcAt, repL_T]
  | .ty n => Iff.rfl
theorem argAt_T {om : Option Mu} {ds : List D} {vs : List V} : ArgAt (w.wT T) O H om ds vs ↔ ArgAt w O H om ds vs := by
  cases om <;> simp only [ArgAt, repL_T, muAt_T]
theorem ioAt_T {om : Option Mu} {vs : List V} : IoAt (w.wT T) O H om vs ↔ IoAt w O H om vs := by
  cases om <;> simp only [IoAt, muAt_T]
theorem retF_T {om : Option Mu} {vs : List V} {H' : Hp} {v : V} {x : Vl} : RetF (w.wT T) O H om vs H' v x ↔ RetF w O H om vs H' v x := by
  obtain ⟨d, b⟩ := x
  cases b <;> simp only [RetF, rep_T, muAt_T, ioAt_T]
theorem holdF_T {om : Option Mu} {vs : List V} {Q : VK} {E : XK} {r : Fs} : HoldF (w.wT T) O H om vs Q E r ↔ HoldF w O H om vs Q E r := by
  cases r <;> simp only [HoldF, retF_T, ioAt_T, xcAt_T]
end
theorem spOf_T {w : Wd} {T : List (Addr × Str)} {k : Nat} {f : Fn} : spOf (w.wT T) k f = spOf w k f := by
  funext vs H Q E
  exact propext (by simp only [spOf, argAt_T, holdF_T])
theorem spIn_T {w : Wd} {T : List (Addr × Str)} {c k : Nat} {f : Fn} : spIn (w.wT T) c k f = spIn w c k f := by
  funext vs H Q E
  exact propext (by simp only [spIn, spOf_T])
section
variable {P : Program} {wo : World} {K : PySem.W.Frag} {mg : Str → Option Value} {base : Heap} {w : Wd} {x : Str} {n j : Nat} {f : Fn} {g : Bool}
theorem DefOk.wT (h : DefOk g P wo K mg base w x n j f) (T : List (Addr × Str)) : DefOk g P wo K mg base (w.wT T) x n j f := by
  unfold DefOk at h ⊢
  rw [spOf_T]
  exact h
theorem DefX.wT (h : DefX P wo K mg base w x n j f) (T : List (Addr × Str)) : DefX P wo K mg base (w.wT T) x n j f := by
  unfold DefX at h ⊢
  rw [spOf_T]
  exact h
theorem MthOk.wT {a : Addr} (h : MthOk P wo K mg base w a n j f) (T : List (Addr × Str)) : MthOk P wo K mg base (w.wT T) a n j f := by
  unfold MthOk at h ⊢
  rw [spOf_T]
  exact h
theorem MthX.wT {a : Addr} (h : MthX P wo K mg base w a n j f) (T : List (Addr × Str)) : MthX P wo K mg base (w.wT T) a n j f := by
  unfold MthX at h ⊢
  rw [spOf_T]
  exact h
theorem MethOk.wT {c : Nat} {a : Addr} (h : MethOk w c x a) (T : List (Addr × Str)) : MethOk (w.wT T) c x a := ⟨h.sc, h.mt⟩
end
/-! ### the promise of a def below which tables grow -/
structure StayT (T : List (Addr × Str)) (O : Av) (om : Option Mu) (vs : List V) (H H' : Hp) : Prop where
  kept : ∀ a o, ¬ IoB om vs a → (∀ p ∈ T, p.1 ≠ a) → H a = some o → H' a = some o
  dom : ∀ a, H a ≠ none → H' a ≠ none
  tab : ∀ p ∈ T, TabZ O H' p.1 p.2
def RetT (w : Wd) (O : Av) (H : Hp) (om' : Option Mu) (vs : List V) (H' : Hp) (v : V) (x : Vl) : Prop := match x.2 with
  | false => Rep w O H' x.1 v ∧ IoAt w O H' om' vs
  | true => ∃ a m, v = .ref a ∧ H a = none ∧ m.is x.1 ∧ MuAt w (ins O a) H' a m ∧ IoAt w (ins O a) H' om' vs ∧ ∀ p ∈ w.T, TabZ (ins O a) H' p.1 p.2
def HoldT (w : Wd) (O : Av) (H : Hp) (om : Option Mu) (vs : List V) (Q : VK) (E : XK) : Fs → Prop
  | .ret x om' => om'.isSome = om.isSome ∧ ∀ H' v, StayT w.T O om vs H H' → RetT w O H om' vs H' v x → Q v H'
  | .exc x om' => om'.isSome = om.isSome ∧ ∀ H' cls d, StayT w.T O om vs H H' → IoAt w O H' om' vs → XcAt w O H' cls d x → E cls d H'
  | .stuck => False
def spT (w : Wd) (k : Nat) (f : Fn) : Sp := fun vs H Q E => ∃ (O : Av) (om : Option Mu) (ds : List D), Dm O H ∧ vs.length = k ∧ (∀ p ∈ w.T, O p.1 ∧ TabZ O H p.1 p.2) ∧ ArgAt w O H om ds vs ∧ HoldT w O H om vs Q E (f om ds)
section
variable {w : Wd} {N : List Str} {vs : List V} {H : Hp} {O : Av} {om : Option Mu} {ds : List D}
/-- what a T-def may change of what it was handed -/
abbrev IoT (w : Wd) (om : Option Mu) (vs : List V) : Nat → Av := fun i a => (i = 0 ∧ IoB om vs a) ∨ (i = tI ∧ ∃ p ∈ w.T, p.1 = a)
theorem rel_startT (dm : Dm O H) (hn : vs.length ≤ N.length) (ht : ∀ p ∈ w.T, O p.1 ∧ TabZ O H p.1 p.2) (h : ArgAt w O H om ds vs) : Rel ⟨w, O, IoT w om vs, H⟩ O (en0 N.length om ds) (start N vs) H := by
  refine ⟨?_, fun _ q => q, fun a q => dm a q, fun i a q => ?_, dm, fun _ q => q, fun a o q _ => q, fun i s e => ?_, fun i j s t e1 e2 m1 m2 q => ?_, fun p hp => ⟨.inr ⟨rfl, p, hp, rfl⟩, (ht p hp).2⟩⟩
  · rw [start_len hn]
    unfold en0
    have := pre_len h
    simp
    omega
  · rcases q with q | ⟨_, p, hp, rfl⟩
    · cases om with
      | none => exact absurd q.2.1 (by simp)
      | some m =>
        obtain ⟨b, vs', rfl, hb, _⟩ := h
        have z := q.2.2
        simp at z
        show O a
        rw [← z]
        exact hb
    · exact (ht p hp).1
  · rcases en0_get h e with rfl | ⟨v, e1, ⟨d, rfl, hd⟩ | ⟨m, a, rfl, rfl, rfl, rfl, ha, hm⟩⟩
    · trivial
    · exact ⟨v, start_get e1, hd⟩
    · refine ⟨a, start_get e1, .inl ⟨rfl, rfl, ?_⟩, hm⟩
      cases vs with
      | nil => simp at e1
      | cons b r => simpa using e1
  · have k : ∀ {i : Nat} {s : Sl}, (en0 N.length om ds)[i]? = some s → s.mu = true → i = 0 := fun {i s} e m => by
      rcases en0_get h e with rfl | ⟨v, e1, ⟨d, rfl, hd⟩ | ⟨m, a, rfl, rfl, rfl, rfl, ha, hm⟩⟩
      · cases m
      · cases m
      · rfl
    rw [k e1 m1, k e2 m2]
theorem io_endT {O' : Av} {ρ' : En} {σ' : L2.St} {H' : Hp} {om' : Option Mu} (R : Rel ⟨w, O, IoT w om vs, H⟩ O' ρ' σ' H') (e : ioOf om ρ' = some om') : om'.isSome = om.isSome ∧ ∀ O1 : Av, (∀ a, O1 a → O' a) → IoAt w O1 H' om' vs := by
  cases om with
  | none =>
    cases e
    exact ⟨rfl, fun _ _ => trivial⟩
  | some m =>
    unfold ioOf at e
    simp only at e
    split at e
    · rename_i m' q
      cases e
      obtain ⟨a, e1, e2, e3⟩ := R.slot 0 _ q
      refine ⟨rfl, fun O1 h => ⟨a, ?_, e3.step (mono_step h) rfl⟩⟩
      rcases e2 with e2 | e2
      · exact e2.2.2
      · exact absurd e2.1 (by decide)
    · cases e
theorem tabZ_mono {O O' : Av} {P : Addr} {q : Str} (h : ∀ a, O a → O' a) (t : TabZ O' H P q) : TabZ O H P q := t.step (mono_step h) rfl
theorem stay_endT {O' : Av} {ρ' : En} {σ' : L2.St} {H' : Hp} (R : Rel ⟨w, O, IoT w om vs, H⟩ O' ρ' σ' H') : StayT w.T O om vs H H' :=
  ⟨fun a o n n2 e => R.keep a o e fun i q => q.elim (fun q => n q.2) fun ⟨_, p, hp, z⟩ => n2 p hp z, fun a e => R.doh a e, fun p hp => tabZ_mono R.b0 (R.tab p hp).2⟩
theorem body_okT {W : WX} {ts : TS} {m : MS} {k : Nat} {Q : VK} {E : XK} (hs : SimS w W ts m) (hW : ∀ cls d σ H, E cls d H → W cls d σ H) (hk : k ≤ N.length) (h : spT w k (fnSem N.length k m) vs H Q E) : ts { nx := fun _ H' => Q .non H', rt := Q } (start N vs) H := by
  obtain ⟨O, om, ds, dm, hl, ht, ha, hh⟩ := h
  refine hs _ O (en0 N.length om ds) (start N vs) H _ rfl (rel_startT dm (by omega) ht ha) ?_
  unfold fnSem at hh
  rw [if_pos ((pre_len ha).trans hl)] at hh
  cases q : m (en0 N.length om ds) with
  | stuck => rw [q] at hh; exact hh
  | exc x ρ' =>
    rw [q] at hh
    simp only at hh
    intro O' σ' H' cls d st R xa
    cases qi : ioOf om ρ' with
    | none => rw [qi] at hh; exact hh.elim
    | some om' =>
      rw [qi] at hh
      obtain ⟨i1, i2⟩ := io_endT R qi
      refine hW _ _ _ _ (hh.2 H' cls d (stay_endT R) (i2 O R.b0) ?_)
      cases x with
      | own c fs =>
        cases fs with
        | nil => exact xa
        | cons f fs =>
          obtain ⟨x1, a, vs1, x2, x3, x4, x5⟩ := xa
          exact ⟨x1, a, vs1, x2, fun q => x3 (R.b0 a q), x4, RepL.step (mono_step R.b0) _ _ x5⟩
      | ty n => exact xa
  | ok f ρ' =>
    rw [q] at hh
    cases f with
    | bk => exact hh.elim
    | ct => exact hh.elim
    | nx =>
      simp only at hh
      intro O' σ' H' st R
      cases qi : ioOf om ρ' with
      | none => rw [qi] at hh; exact hh.elim
      | some om' =>
        rw [qi] at hh
        obtain ⟨i1, i2⟩ := io_endT R qi
        exact hh.2 H' .non (stay_endT R) ⟨by simp only [Rep], i2 O R.b0⟩
    | rt x =>
      simp only at hh
      intro O' σ' H' v st R rv
      cases qi : ioOf om ρ' with
      | none => rw [qi] at hh; exact hh.elim
      | some om' =>
        rw [qi] at hh
        obtain ⟨i1, i2⟩ := io_endT R qi
        refine hh.2 H' v (stay_endT R) ?_
        obtain ⟨d, b⟩ := x
        cases b with
        | false => exact ⟨Rep.step (mono_step R.b0) _ _ rv, i2 O R.b0⟩
        | true =>
          obtain ⟨a, mm, e1, e2, e3, e4, e5⟩ := rv
          have sub : ∀ b, ins O a b → O' b := fun b q => q.elim (R.b0 b) fun z => by rw [z]; exact e3
          exact ⟨a, mm, e1, e2, e4, e5.step (mono_step sub) rfl, i2 _ sub, fun p hp => tabZ_mono sub (R.tab p hp).2⟩
/-- from a time to a later one, the tables may have grown -/
theorem Rel.stepT {F : Fr} {O O' : Av} {ρ : En} {σ : L2.St} {H H' : Hp} (R : Rel F O ρ σ H) (st : Step O H O' H') (hO : ∀ b, O b → O' b) (hdm : ∀ b, O' b → H' b ≠ none) (hk : ∀ b o, (∀ p ∈ F.w.T, p.1 ≠ b) → H b = some o → H' b = some o) (ht : ∀ p ∈ F.w.T, TabZ O' H' p.1 p.2) : Rel F O' ρ σ H' := by
  have same : ∀ {c : Addr} {m0 : Mu}, MuAt F.w O H c m0 → H' c = H c := fun {c m0} q => by
    cases z : H c with
    | none => exact absurd z q.some
    | some o => exact hk c o (R.tab.ne q.ntab) z
  refine ⟨R.len, fun b q => hO b (R.b0 b q), R.bh, R.ib, hdm, fun b q => st.dom b (R.doh b q), fun b o q n => hk b o (fun p hp z => n tI (z ▸ (R.tab p hp).1)) (R.keep b o q n), fun i s e => ?_, R.dist, fun p hp => ⟨(R.tab p hp).1, ht p hp⟩⟩
  have q := R.slot i s e
  cases s with
  | non => trivial
  | val d =>
    obtain ⟨v, e1, q⟩ := q
    exact ⟨v, e1, Rep.step st d v q⟩
  | own m =>
    obtain ⟨b, e1, q1, q2, q3⟩ := q
    exact ⟨b, e1, hO _ q1, q2, q3.step st (same q3)⟩
  | io m =>
    obtain ⟨b, e1, q1, q3⟩ := q
    exact ⟨b, e1, q1, q3.step st (same q3)⟩
theorem Rel.tabO {F : Fr} {O : Av} {ρ : En} {σ : L2.St} {H : Hp} (R : Rel F O ρ σ H) : ∀ p ∈ F.w.T, O p.1 ∧ TabZ O H p.1 p.2 := fun p hp => ⟨R.b0 _ (R.ib _ _ (R.tab p hp).1), (R.tab p hp).2⟩
end
/-! ### calls of T-defs, in T-frames -/
section
variable {w : Wd} {W : WX} {f : Fn} {k : Nat} {ta : TA} {ma : MA}
end
def codeV : Value → Option Addr
  | .ref c => some c
  | _ => none
theorem codeV_ref {v : Value} {c : Addr} (h : codeV v = some c) : v = .ref c := by
  cases v <;> first | (cases h; rfl) | cases h
/-- the code object of the def at f -/
def codeOf (K : PySem.W.Frag) (f : Addr) : Option Addr := match K.lookup f with
  | some ⟨_, _, .func fd, _⟩ => codeV fd.code
  | _ => none
def DefT (P : Program) (wo : World) (K : PySem.W.Frag) (mg : Str → Option Value) (base : Heap) (w : Wd) (x : Str) (n j : Nat) (f : Fn) : Prop :=
  ∃ a fd ps, ps.length = n ∧ FnG P wo K mg base CX0 j a fd ps (spT w n f) ∧ mg x = some (.ref a) ∧ PySem.W.keepIn K (.ref a) = true ∧ Binds K fd ps []
section
variable {w : Wd} {W : WX} {X : Cx} {pos p : Pos} {x : Str} {e : Expr} {es : List Expr} {ma : MA} {f : Fn} {n j : Nat}
end
section
variable {P : Program} {wo : World} {K : PySem.W.Frag} {mg : Str → Option Value} {base : Heap} {w : Wd}
theorem noX_holdT {f : Fn} {vs : List V} {H : Hp} {Q : VK} {E E' : XK} {k : Nat} (h : spT w k (noX f) vs H Q E) : spT w k f vs H Q E' := by
  obtain ⟨O, om, ds, dm, hl, ht, ha, hh⟩ := h
  refine ⟨O, om, ds, dm, hl, ht, ha, ?_⟩
  unfold noX at hh
  cases q : f om ds with
  | ret x m => rw [q] at hh; exact hh
  | exc x m => rw [q] at hh; exact hh.elim
  | stuck => rw [q] at hh; exact hh.elim
theorem fn_okT {x qual : Str} {st : Stmt} {f c : Addr} {fd : FuncData} {N ps : List Str} {k : Nat} {m : MS} (hc : codeOf K f = some c) (F : Fun K x qual st f fd) (S : FnScope N ps (defScope st)) (hl : ps.length ≤ N.length)
    (hb : ∀ (A : Around) (outer : List Env) (s : Shared) (H : Hp) (E : XK), A.guards = some [] → Room k (A.deeper (envOfC qual (defScope st) s.heap.objs.size f (.ref c))) →
      PMSs (cxOf CX0 P wo K mg base N qual (defScope st) f (.ref c) A outer s H E).nox w W0 (defBody st) m) : FnG P wo K mg base CX0 (k + 1) f fd ps (spT w ps.length (noX (fnSem N.length ps.length m))) := by
  have len : ∀ vs H Q E, spT w ps.length (noX (fnSem N.length ps.length m)) vs H Q E → vs.length = ps.length := fun vs H Q E h => by
    obtain ⟨O, om, ds, _, hl, _⟩ := h
    exact hl
  obtain ⟨oc, od, kV, doc, pm, an, cdv, ct, osl, rfl, lk, hcd⟩ := F.ex
  have ec : cdv = .ref c := by
    unfold codeOf at hc
    rw [lk] at hc
    exact codeV_ref hc
  subst ec
  refine fn_ofG lk hcd S len fun A outer s H vs Q E hgu hr h => ?_
  obtain ⟨t, p, sm⟩ := hb A outer s H E hgu hr
  exact ⟨t, p.nox, body_okT (E := fun _ _ _ => False) sm (fun _ _ _ _ z => z) hl (noX_holdT h)⟩
end
end PM

/-! f(y, ..), f a def below which tables grow, y a list or dict that f may change -/
namespace PM
open PySem PySem.Spec PyProof.Rows L2
section
variable {w : Wd} {W : WX} {f : Fn} {k : Nat} {ta : TA} {ma : MA}
/-- a thing is changed, and tables may have grown -/
theorem Rel.mutT {F : Fr} {O O' : Av} {ρ : En} {σ : L2.St} {H H' : Hp} {i : Nat} {s : Sl} {m m' : Mu} {a : Addr} (R : Rel F O ρ σ H) (e : ρ[i]? = some s) (g : s.get = some m) (ea : σ[i]? = some (some (.ref a))) (oa : O a) (ma : MuAt F.w O H a m)
    (hk : ∀ b o, b ≠ a → (∀ p ∈ F.w.T, p.1 ≠ b) → H b = some o → H' b = some o) (hsub : ∀ b, O' b → O b ∨ H b = none) (hO : ∀ b, O b → O' b) (dom : ∀ b, H b ≠ none → H' b ≠ none) (hdm : ∀ b, O' b → H' b ≠ none) (ht : ∀ p ∈ F.w.T, TabZ O' H' p.1 p.2) (hm : MuAt F.w O' H' a m') :
    Rel F O' (ρ.set i (s.put m')) σ H' ∧ Step O H O' H' := by
  have tO := R.tabO
  have nT : ∀ p ∈ F.w.T, p.1 ≠ a := R.tab.ne ma.ntab
  have hx : ∃ Hm : Hp, ∀ b, Hm b = if b = a then H a else H' b := ⟨fun b => if b = a then H a else H' b, fun _ => rfl⟩
  obtain ⟨Hm, hHm⟩ := hx
  have at_ : Hm a = H a := by rw [hHm, if_pos rfl]
  have off : ∀ b, b ≠ a → Hm b = H' b := fun b n => by rw [hHm, if_neg n]
  have kO : ∀ b o, ¬ O b → H b = some o → Hm b = some o := fun b o n z => by
    have nb : b ≠ a := fun z => n (z ▸ oa)
    rw [off b nb]
    exact hk b o nb (fun p hp z => n (z ▸ (tO p hp).1)) z
  have domM : ∀ b, H b ≠ none → Hm b ≠ none := fun b z => by
    by_cases hb : b = a
    · rw [hb, at_]
      exact ma.some
    · rw [off b hb]
      exact dom b z
  have st1 : Step O H O' Hm := ⟨hsub, kO, domM⟩
  have tM : ∀ p ∈ F.w.T, TabZ O' Hm p.1 p.2 := fun p hp => by
    obtain ⟨ps, h1, h2, h3⟩ := ht p hp
    refine ⟨ps, by rw [off _ (nT p hp)]; exact h1, h2, fun pos cv hc => ?_⟩
    obtain ⟨c, e1, e2, e3⟩ := h3 pos cv hc
    exact ⟨c, e1, e2, by rw [off c (fun z => e2 (z ▸ hO _ oa))]; exact e3⟩
  have R1 : Rel F O' ρ σ Hm := R.stepT st1 hO (fun b q => by
    by_cases hb : b = a
    · rw [hb, at_]
      exact ma.some
    · rw [off b hb]
      exact hdm b q) (fun b o n z => by
    by_cases hb : b = a
    · rw [hb, at_, ← hb]
      exact z
    · rw [off b hb]
      exact hk b o hb n z) tM
  have oa' : O' a := hO a oa
  have st2 : Step O' Hm O' H' := ⟨fun _ q => .inl q, fun b o n z => by rw [← off b (fun z => n (z ▸ oa'))]; exact z, fun b z => by
    by_cases hb : b = a
    · rw [hb]
      exact hdm a oa'
    · rw [← off b hb]
      exact z⟩
  exact ⟨R1.mutG e g ea (fun b o n z => by rw [← off b n]; exact z) st2 (fun _ q => q) hdm hm, st1.trans st2⟩
theorem sim_callDT {E : XK} {i : Nat} (ha : SimA w W ta ma) (hn : ∀ (ρ ρ1 : En) (xs : List D), ma ρ = .ok xs ρ1 → xs.length + 1 = k) : Sim w W (tCall (spT w k f) [] E (tCons (tVar i) ta)) (mCallD f i ma) := fun F O ρ σ H Q hw R hh => by
  subst hw
  unfold mCallD at hh
  cases q0 : muOf i ρ with
  | none => rw [q0] at hh; exact hh.elim
  | some sm =>
    rw [q0] at hh
    obtain ⟨e0, g0⟩ := muOf_some (s := sm.1) (m := sm.2) q0
    obtain ⟨a, ea, oa, _⟩ := R.muAt e0 g0
    refine ⟨.ref a, ea, ?_⟩
    have key : Hold F W O σ H (RV F σ H) Q ((ma ρ).bind fun xs ρ1 => if xs.length + 1 = k then (match muOf i ρ1 with
      | none => .stuck
      | some (s, m) => match f (some m) xs with
        | .ret x (some m') => .ok x (ρ1.set i (s.put m'))
        | _ => .stuck) else .stuck) := by
      cases q : ma ρ with
      | ok xs ρ1 =>
        rw [q] at hh
        show Hold F W O σ H (RV F σ H) Q (if xs.length + 1 = k then _ else _)
        rw [if_pos (hn ρ ρ1 xs q)]
        exact hh
      | exc x ρ1 => rw [q] at hh; exact hh
      | stuck => rw [q] at hh; exact hh
    refine ha.bind rfl R key fun xs vs ρ1 O1 H1 st1 R1 rs h1 => ?_
    split at h1
    · rename_i hk
      split at h1
      · exact h1.elim
      · rename_i s m q1
        obtain ⟨e1, g1⟩ := muOf_some q1
        obtain ⟨a', ea', oa', ma'⟩ := R1.muAt e1 g1
        rw [ea] at ea'
        cases ea'
        show spT _ _ _ ((.ref a :: vs) ++ []) H1 Q E
        rw [List.append_nil]
        have tO := R1.tabO
        refine ⟨O1, some m, xs, R1.dom, by simp [rs.length, hk], tO, ⟨a, vs, rfl, oa', ma', rs⟩, ?_⟩
        split at h1
        · rename_i z m' hz
          rw [hz]
          refine ⟨rfl, fun H' v sy rf => ?_⟩
          have hk : ∀ b o, b ≠ a → (∀ p ∈ F.w.T, p.1 ≠ b) → H1 b = some o → H' b = some o := fun b o n n2 e => sy.kept b o (fun q => n (by have := q.2; simp at this; exact this.symm)) n2 e
          obtain ⟨d, b⟩ := z
          cases b with
          | false =>
            obtain ⟨r1, a2, ha2, r2⟩ := rf
            cases (show some (V.ref a) = some (.ref a2) from ha2)
            obtain ⟨R2, st2⟩ := R1.mutT e1 g1 ea oa' ma' hk (fun _ q => .inl q) (fun _ q => q) sy.dom (fun b q => sy.dom b (R1.dom b q)) sy.tab r2
            exact h1 O1 H' v (st1.trans st2) R2 r1
          | true =>
            obtain ⟨c, m2, e2, e3, e4, e5, ⟨a2, ha2, r2⟩, tb⟩ := rf
            cases (show some (V.ref a) = some (.ref a2) from ha2)
            obtain ⟨R2, st2⟩ := R1.mutT e1 g1 ea oa' ma' hk (fun b q => q.elim .inl fun e => .inr (by rw [e]; exact e3)) (fun _ q => .inl q) sy.dom (fun b q => q.elim (fun q => sy.dom b (R1.dom b q)) fun z => by rw [z]; exact e5.some) tb r2
            exact h1 (ins O1 c) H' v (st1.trans st2) R2 ⟨c, m2, e2, st1.none_back e3, .inr rfl, e4, e5, (R1.apart e3).put e1 (mu_of_get g1)⟩
        · exact h1.elim
    · exact h1.elim
end
section
variable {w : Wd} {W : WX} {X : Cx} {pos p p' : Pos} {x y : Str} {es : List Expr} {ma : MA} {f : Fn} {n j : Nat}
theorem pm_callDT (i : Nat) (F : DefT X.prog X.w X.K X.mg X.base w x (n + 1) j f) (hgu : X.A.guards = some []) (hr : Room j X.A) (hg : Gl X x) (ha : PMA X w W es ma) (hn : Len ma n) (hN : X.N[i]? = some y := by rfl) (hv : Vis X.env.scope y := by first | exact Or.inl rfl | exact Or.inr (Or.inl rfl) | exact Or.inr (Or.inr rfl)) (hd : (x == ("__debug__" : Str)) = false := by decide)
    (hdy : (y == ("__debug__" : Str)) = false := by decide) (hcd : (y == ("__classdict__" : Str)) = false := by decide) (he : starEach (.Name y p' :: es) X.env = (false, eval (.Name y p') X.env) :: starEach es X.env := by rfl) (hpl : (backTo pos (starEach es X.env)).any (·.1) = false := by rfl) :
    PM X w W (.Call (.Name x p) (.Name y p' :: es) [] pos) (mCallD f i ma) := by
  obtain ⟨a, fd, ps, hl, F, hm, hk, hb⟩ := F
  obtain ⟨ta, pa, sa⟩ := ha
  exact ⟨_, pe_callG F hgu hr hg hm hk hb pass0 (pa_cons (pe_var hN hv hdy hcd) pa he) hd he hpl, sim_callDT sa fun ρ ρ1 xs q => by rw [hn ρ ρ1 xs q]⟩
end
end PM

/-! try: v = f(x, y) / except A as n: return n.f -/
namespace PM
open PySem PySem.Spec PyProof.Rows L2
section
variable {F : Fr} {O : Av} {ρ : En} {σ σ' : L2.St} {H H' : Hp} {E : Ends} {i : Nat} {C : Addr} {f : Str} {dd : D}
end
section
variable {w : Wd} {X : Cx} {c i i0 i1 iv k : Nat} {f1 : Str} {fn : Fn} {f x y v n x1 : Str} {q0 q1 q2 q3 q4 q5 r1 r2 r4 r5 qv pos pl0 : Pos}
end
end PM

/-! f(lambda: e), where f tries it and tells what the error keeps -/
namespace PM
open PySem PySem.Spec PyProof.Rows L2 LamX
theorem takes_len {X : Cx} {W : WX} (tk : Takes X W) : Takes X (fun cls d σ H => σ.length = X.N.length → W cls d σ H) := fun u s' ⟨a, B, sI, pins, σ, H, cls, d, e, I, nb, up, sky, na, os, ag, z⟩ =>
  tk u s' ⟨a, B, sI, pins, σ, H, cls, d, e, I, nb, up, sky, na, os, ag, z I.len⟩
/-- the table at P is well kept: each code object that it tells is one named q -/
def TabW (H : Hp) (q : Str) (ps : Array Value) : Prop := TriplesOk ps.toList ∧ ∀ (pos : Pos) (cv : Value), codeAmong pos ps.toList = some cv → ∃ c, cv = .ref c ∧ H c = some (CodeO c q)
section
variable {X : Cx} {pins : List (Addr × Obj)} {σ : L2.St} {H : Hp} {s : Shared}
/-- a lambda is made; of what is tracked just the one table changes -/
theorem lam_new {cc P : Addr} {ps : Array Value} {prm : Arguments} {ex : Expr} {sc : Scope} {at_ : Pos} {Er Q : Value → Shared → Prop} (J : Inv X pins σ H s) (B : TabB X.base X.mg cc P) (code : X.env.code = .ref cc)
    (tb : H P = some (.tbl ps)) (tw : TabW H (X.env.qual ++ "<lambda>") ps) (nd : defaultsOf prm X.env = ([], [])) (fr : ∀ y ∈ sc.names, y.2 = .free → ∃ k, X.env.cells.lookup y.1 = some k)
    (go : ∀ (fa cn : Addr) (pm ctv : Value) (H1 : Hp) (s1 : Shared) (ps1 : Array Value), Inv X pins σ H1 s1 → (∀ b o, b ≠ P → H b = some o → H1 b = some o) → H1 P = some (.tbl ps1) → TriplesOk ps1.toList →
      (∀ (pos : Pos) (cv : Value), codeAmong pos ps1.toList = some cv → ∃ c, cv = .ref c ∧ H1 c = some (CodeO c (X.env.qual ++ "<lambda>")) ∧ (codeAmong pos ps.toList = some cv ∨ H c = none)) →
      s1.heap.get? fa = some (PySem.W.kla_obj "<lambda>" (X.env.qual ++ "<lambda>") prm ex sc (cloFrom X.env.cells sc.names []) pm cn ctv) → H1 fa = none → fa ∉ frs X.stack → H1 cn = some (CodeO cn (X.env.qual ++ "<lambda>")) → Q (.ref fa) s1) :
    wpAny (model X.prog X.w) X.A (eval (.Lambda prm ex sc at_) X.env) Q Er s := by
  obtain ⟨tri, known⟩ := tw
  have blt := B.bm.keeps J.bk
  have seen : s.heap.get? P = some { cls := .none, data := .fields ps } := J.hok P _ tb
  have off : ∀ {b : Addr}, s.heap.objs.size ≤ b → b ∉ frs X.stack := fun {b} hb z => by
    rcases List.mem_cons.mp (J.stkSub _ z) with rfl | z
    · exact absurd (Nat.lt_of_lt_of_le J.lt hb) (Nat.lt_irrefl _)
    · exact J.nofs hb z
  have glb := J.mod.glob.keeps J.bk
  have cde := B.code.keeps J.bk
  refine PySem.W.kla_eval nd ?_
  cases fnd : codeAmong at_ ps.toList with
  | some cv =>
    obtain ⟨cn, rfl, hcn⟩ := known at_ cv fnd
    refine PySem.W.kla_makeFunctionHit (mg := X.mg) (c := cc) (P := P) (ps := ps) (closure_ok fr) J.ok.glob glb code cde seen tri fnd blt fun ctv h1 tk old sz => ?_
    have J1 := J.kept (t' := tk) (h' := h1.push (PySem.W.kla_obj "<lambda>" (X.env.qual ++ "<lambda>") prm ex sc (cloFrom X.env.cells sc.names []) ((X.mg "__name__").getD .none) cn ctv)) fun b o e => Heap.get?_push_of_some _ (old b o e)
    exact go h1.objs.size cn _ ctv H _ ps J1 (fun _ _ _ e => e) tb tri (fun pos cv e => (known pos cv e).imp fun c z => ⟨z.1, z.2, .inl e⟩) (Heap.get?_push_size _ rfl) (J.hok.fresh sz) (off sz) hcn
  | none =>
    refine PySem.W.kla_makeFunction (mg := X.mg) (c := cc) (P := P) (ps := ps) (closure_ok fr) J.ok.glob glb code cde seen tri fnd B.gP blt fun cn ctv h1 tk but lo hi rec_ tab1 => ?_
    obtain ⟨c2, oc, vs, t, ec, g1, g2, g3⟩ := rec_
    cases ec
    have sz : s.heap.objs.size ≤ h1.objs.size := Nat.le_of_lt (Nat.lt_of_le_of_lt lo hi)
    have nw : H cn = none := J.hok.fresh lo
    have pc : P ≠ cn := ne_of_none tb nw
    generalize hmore : (#[rawInt at_.line, rawInt at_.col, .ref cn] : Array Value) = more at tab1
    have tl : (ps ++ more).toList = ps.toList ++ [rawInt at_.line, rawInt at_.col, .ref cn] := by rw [← hmore]; simp
    generalize hq : X.env.qual ++ ("<lambda>" : Str) = q at *
    have J1 := inv_table (q := q) (t' := tk) (more := more) (h' := h1.push (PySem.W.kla_obj "<lambda>" q prm ex sc (cloFrom X.env.cells sc.names []) ((X.mg "__name__").getD .none) cn ctv)) J tb (fun b o hb e => Heap.get?_push_of_some _ (but b o hb e)) (Heap.get?_push_of_some _ tab1) lo ⟨oc, vs, t, Heap.get?_push_of_some _ g1, g2, g3⟩
    have self : upd (upd H P (.tbl (ps ++ more))) cn (CodeO cn q) cn = some (CodeO cn q) := upd_same
    have rest : ∀ b o, b ≠ P → H b = some o → upd (upd H P (.tbl (ps ++ more))) cn (CodeO cn q) b = some o := fun b o nb e => by
      rw [upd_ne (ne_of_none e nw), upd_ne nb]
      exact e
    have atP : upd (upd H P (.tbl (ps ++ more))) cn (CodeO cn q) P = some (.tbl (ps ++ more)) := by rw [upd_ne pc, upd_same]
    have nf : upd (upd H P (.tbl (ps ++ more))) cn (CodeO cn q) h1.objs.size = none := by
      rw [upd_ne (Nat.ne_of_gt hi), upd_ne (Nat.ne_of_gt (Nat.lt_of_lt_of_le (Heap.lt_size seen) sz))]
      exact J.hok.fresh sz
    refine go h1.objs.size cn _ ctv _ _ (ps ++ more) J1 rest atP (by rw [tl]; exact PySem.TriplesOk_snoc _ _ _ _ tri) (fun pos cv e => ?_) (Heap.get?_push_size _ rfl) nf (off sz) self
    rw [tl] at e
    rcases among_app _ tri e with z | z
    · obtain ⟨c, rfl, hc⟩ := known pos cv z
      exact ⟨c, rfl, rest c _ (fun y => by rw [y, tb] at hc; exact codeO_ne _ (Option.some.inj hc).symm) hc, .inl z⟩
    · exact ⟨cn, z, self, .inr nw⟩
end
/-- what f(lambda: e) asks: t, the lambda's reading; TT, what f makes of it -/
def tLamP (P : Addr) (q : Str) (TT : (XK → Hp → VK → Prop) → Hp → VK → Prop) (t : XK → TE) : TE := fun σ H Q => ∃ ps, H P = some (.tbl ps) ∧ TabW H q ps ∧
  ∀ (H1 : Hp) (ps1 : Array Value), (∀ b o, b ≠ P → H b = some o → H1 b = some o) → H1 P = some (.tbl ps1) → TriplesOk ps1.toList →
    (∀ (pos : Pos) (cv : Value), codeAmong pos ps1.toList = some cv → ∃ c, cv = .ref c ∧ H1 c = some (CodeO c q) ∧ (codeAmong pos ps.toList = some cv ∨ H c = none)) → TT (fun E H' Q' => t E σ H' Q') H1 Q
section
variable {X : Cx}
theorem pe_lamP {TT : (XK → Hp → VK → Prop) → Hp → VK → Prop} {x a : Str} {g cc P : Addr} {k : Nat} {pg : Arguments} {bg : List Stmt} {sg : Scope} {dV kV doc pm cdv ct oc : Value} {an od : Option Addr} {osl : Array (Option Value)} {Ng : List Str}
    {prm : Arguments} {ex : Expr} {sc : Scope} {t : XK → TE} {p lp pos : Pos} (gl : Gl X x) (mgx : X.mg x = some (.ref g)) (kp : PySem.W.keepIn X.K (.ref g) = true)
    (look : X.K.lookup g = some ⟨oc, od, .func (PySem.W.fnOf x x pg bg sg dV kV doc pm an cdv ct), osl⟩) (cin : PySem.W.codeIn X.K cdv x = true) (bind : L2.Binds X.K (PySem.W.fnOf x x pg bg sg dV kV doc pm an cdv ct) [a] []) (Sg : FnScope Ng [a] sg) (n0 : Ng[0]? = some a) (va : Vis sg a)
    (gives : GivesTo X Ng x sg g cdv bg a (X.env.qual ++ "<lambda>") TT) (B : TabB X.base X.mg cc P) (code : X.env.code = .ref cc) (rm : Room (k + 2) X.A) (L : LamS X.env.scope sc) (nd : defaultsOf prm X.env = ([], []))
    (lb : ∀ (q : Str) (cl : List (Str × Addr)) (pm cv ctv : Value), bindArgs (PySem.W.kla_fn "<lambda>" q prm ex sc cl pm cv ctv) ⟨[], []⟩ = pure [])
    (inner : ∀ (A : Around) (outer : List Env) (s : Shared) (H : Hp) (E : XK) (f c' : Addr), Room k (A.deeper (lamEnv X sc s.heap.objs.size f c')) → PE (lamCx X A outer s H E sc f c') ex (t E))
    (d1 : (x == ("__debug__" : Str)) = false := by decide) (d2 : (a == ("__debug__" : Str)) = false := by decide) (d3 : (a == ("__classdict__" : Str)) = false := by decide) :
    PE X (.Call (.Name x p) [.Lambda prm ex sc lp] [] pos) (tLamP P (X.env.qual ++ "<lambda>") TT t) := by
  refine ⟨fun pins s σ H Q I ⟨ps, hP, tw, hq⟩ => wpAny_Call_Name_kw (ld_glob I gl mgx ?_ d1)⟩
  refine PySem.W.callWith_K (h₀ := X.base) I.ok.mod.kin kp ?_ (by rfl) (by rfl)
  show wpAny _ _ (spliced ((false, eval (.Lambda prm ex sc lp) X.env) :: backTo pos (starEach [] X.env))) _ _ s
  refine Calls.spliced_cons (lam_new I B code hP tw nd (L.has I.ok) fun fa cn pm' ctv H1 s1 ps1 I1 k1 k2 k3 k4 hf hn hs hc => ?_)
  refine Calls.spliced_nil ⟨I1.kIn, wpAny_call ?_⟩
  have run : codeAny (model X.prog X.w) X.A (.call (.ref g) ⟨[.ref fa], []⟩) (CR C8.CX0 X.stack X.prog X.w H1 s1 Q C8.E0) s1 := by
    refine run_ofS (N := Ng) (ps := [a]) (us := [.ref fa]) (vs := [.ref fa]) look cin Sg rm I1.env0 (bind s1 [.ref fa] I1.kIn rfl) (.cons rfl .nil) rfl fun rm' => ?_
    obtain ⟨tt, pt, wish⟩ := gives fa cn s1 H1 Q (fun E H' Q' => t E σ H' Q') (fun W pn xe E p1 p2 tk hW => pe_act (i := 0) I1 L hf hn hs (lb _ _ _ _ _) tk hW rm' (fun A outer s H r2 => inner A outer s H E fa cn r2) n0 va d2 d3) hc (hq H1 ps1 k1 k2 k3 k4)
    exact ⟨tt, pt.nox, wish⟩
  refine codeAny_mono run fun r s2 hr => ?_
  rcases r with e | fl
  · exact (show False from hr).elim
  · cases fl with
    | ret u => exact I1.after hr
    | next => exact hr.elim
    | brk => exact hr.elim
    | cont => exact hr.elim
end
/-! ### try: return a() / except C as n: return n.f -/
/-! ### the meaning -/
end PM

/-! the law's end where tables of code objects grow; what is seen of the head, without these tables -/
namespace PM
open PySem PySem.Spec PyProof.Rows L2 LamX
/-- a table as it is at first -/
abbrev tab0 : Obj := { cls := .none, data := .fields #[] }
/-- nothing but the script and the tables is tracked -/
structure OnlyT (Ps : List Addr) (G : Hp) : Prop where
  tbl : ∀ b ∈ Ps, G b = some (.tbl #[])
  rest : ∀ b, G b = none ∨ b ∈ Ps ∨ ∃ o xs, G b = some (.frz o (.lst xs))
section
variable {P : Program} {wo : World} {K : PySem.W.Frag} {mg mb : Str → Option Value} {Z : CXT} {k : Nat} {fa a : Addr} {fd : FuncData} {x : Str} {sp : Sp} {s1 : Shared} {us : List Value} {ns : List Int} {cs : List (Addr × Addr)}
theorem law_callGT (KX : K.In s1.heap) (hns : s1.heap.Ns mainGlobals mg) (hb : s1.heap.Ns builtinsNs mb) (hbb : ∀ x : Str, x ≠ "__name__" → mb x = bootBuiltins x) (hlim : s1.heap.NoLimit) (hg : s1.gens = #[])
    (tE : ∀ p ∈ cs, s1.heap.get? p.2 = some tab0) (tK : ∀ p ∈ cs, K.lookup p.2 = none) (tC : ∀ p ∈ cs, PySem.W.CodeHd s1.heap p.1 p.2)
    (bmn : ∃ (bm : Addr) (ob : Obj), mg "__builtins__" = some (.ref bm) ∧ bm ≠ builtinsNs ∧ s1.heap.get? bm = some ob ∧ ob.cls = .type "module" ∧ ob.dict = some builtinsNs ∧ ob.data = .plain)
    (ha : s1.heap.get? a = some { cls := .type "list", data := .seq us.toArray }) (hi : IntsAre us ns) (hl : ns.length ≤ sizeLine) (hr : Room k callerA) (hgu : callerA.guards = some [])
    (F : ∀ b0 : Heap, K.In b0 → b0.Ns mainGlobals mg → (∀ p ∈ cs, TabB b0 mg p.1 p.2) → FnG P wo K mg b0 Z k fa fd [x] sp) (hbind : ∀ (s : Shared) (u : Value), BindsTo s fd ⟨[u], []⟩ [(x, u)])
    (hsp : ∀ H : Hp, OnlyT (cs.map (·.2)) H → SqL K H a (ns.map V.int) → sp [.ref a] H (fun v _ => v = .bl true) fun _ _ _ => False) (hZ : ∀ H e s', Z [] H s1 (fun _ _ _ => False) e s' → False) :
    codeAny (model P wo) callerA (.call (.ref fa) ⟨[.ref a], []⟩) (fun r s' => r = .ok (.ret (.bool true)) ∧ OldK s1.heap s'.heap ∧ s'.os = s1.os ∧ AllBare s'.gens) s1 := by
  have rv := vals_ints hi
  have lenV := hi.length
  have atT : ∀ b, b ∈ cs.map (·.2) → s1.heap.get? b = some tab0 ∧ K.lookup b = none := fun b hb => by
    obtain ⟨p, hp, rfl⟩ := List.mem_map.mp hb
    exact ⟨tE p hp, tK p hp⟩
  have aT : a ∉ cs.map (·.2) := fun z => by
    have y := (atT a z).1
    rw [ha] at y
    cases (show Data.seq us.toArray _ = Data.fields #[] from congrArg Obj.data (Option.some.inj y))
  have core : ∀ G : Hp, OnlyT (cs.map (·.2)) G → SqL K G a (ns.map V.int) → HOk P wo G s1.heap → (∀ b, G b ≠ none → b = a ∨ b ∈ cs.map (·.2)) → (G a ≠ none → K.lookup a = none) →
      codeAny (model P wo) callerA (.call (.ref fa) ⟨[.ref a], []⟩) (fun r s' => r = .ok (.ret (.bool true)) ∧ OldK s1.heap s'.heap ∧ s'.os = s1.os ∧ AllBare s'.gens) s1 := fun G hO hS hok hA hKn => by
    have old : ∀ {b : Addr} {o : Obj}, s1.heap.get? b = some o → G b = none → (hidT s1.heap G).get? b = some o := fun e n => hidT_get e n
    have free : ∀ {b : Addr} {o : Obj}, s1.heap.get? b = some o → (∀ vs n, o.data ≠ .seq vs n) → o.data ≠ .fields #[] → G b = none := fun {b o} e y1 y2 => by
      cases q : G b with
      | none => rfl
      | some u =>
        rcases hA b (by rw [q]; simp) with rfl | z
        · rw [ha] at e
          cases e
          exact absurd rfl (y1 _ _)
        · rw [(atT b z).1] at e
          cases e
          exact absurd rfl y2
    have freeD : ∀ {b : Addr} {o : Obj} {es : Array DictEntry} {ep : Nat}, s1.heap.get? b = some o → o.data = .dict es ep → G b = none := fun e d => free e (fun _ _ z => by rw [d] at z; cases z) fun z => by rw [d] at z; cases z
    have nsK : ∀ {b : Addr} {m : Str → Option Value}, s1.heap.Ns b m → (hidT s1.heap G).Ns b m := fun {b m} z => by
      obtain ⟨o, es, ep, e, d, r⟩ := z
      exact ⟨o, es, ep, old e (freeD e d), d, r⟩
    have inB : K.In (hidT s1.heap G) := fun b o e => by
      refine old (KX b o e) ?_
      cases q : G b with
      | none => rfl
      | some u =>
        rcases hA b (by rw [q]; simp) with rfl | z
        · rw [hKn (by rw [q]; simp)] at e
          cases e
        · rw [(atT b z).2] at e
          cases e
    have nol : (hidT s1.heap G).NoLimit := by
      obtain ⟨mc, h1, h2⟩ := hlim
      exact ⟨mc, nsK h1, h2⟩
    have glob : ∀ b, s1.heap.get? b = some tab0 → b ≠ mainGlobals := fun b e z => by
      obtain ⟨o, es, ep, e2, d, _⟩ := hns
      rw [z, e2] at e
      cases e
      cases d
    have tabs : ∀ p ∈ cs, TabB (hidT s1.heap G) mg p.1 p.2 := fun p hp => by
      have e0 := tE p hp
      refine ⟨?_, ?_, fun z => glob _ e0 z.symm⟩
      · obtain ⟨o, vs, f1, f2, f3, f4, f5, f6, f7, e1, r1, r2, r3, r⟩ := tC p hp
        refine ⟨o, vs, f1, f2, f3, f4, f5, f6, f7, old e1 (free e1 (fun _ _ z => ?_) fun z => ?_), r1, r2, r3, r⟩
        · rw [r2] at z
          cases z
        · rw [r2] at z
          cases z
          simp at r3
      · obtain ⟨bm, ob, y1, y2, y3, y4, y5, y6⟩ := bmn
        refine ⟨bm, ob, y1, y2, fun z => ?_, fun z => ?_, old y3 (free y3 (fun _ _ z => by rw [y6] at z; cases z) fun z => by rw [y6] at z; cases z), y4, y5, y6⟩
        · obtain ⟨o, es, ep, e2, d, _⟩ := hns
          rw [z, e2] at y3
          cases y3
          rw [d] at y6
          cases y6
        · rw [z, e0] at y3
          cases y3
          cases y6
    have e0 : Env0 P wo K mg (hidT s1.heap G) callerA [] s1 G := ⟨rfl, ⟨inB, nsK hns, ⟨mb, nsK hb, hbb⟩, nol⟩, fun b o e => of_hidT e, Nat.le_of_eq (hidT_size _ _), trivial, fun b z => absurd (show b ∈ ([] : List Addr) from z) (by simp), hok, .of_eq hg⟩
    refine codeAny_mono ((F _ inB (nsK hns) tabs).run callerA [] s1 G ⟨[.ref a], []⟩ [.ref a] [.ref a] _ _ hgu hr e0 (hbind s1 (.ref a)) (.cons rfl .nil) (hsp G hO hS)) fun r s' h => ?_
    rcases r with e | fl
    · exact (hZ G e s' h).elim
    · cases fl with
      | next => exact h.elim
      | brk => exact h.elim
      | cont => exact h.elim
      | ret u =>
        obtain ⟨v, G', os, bare, un, hok', r', q⟩ := h
        cases (show v = .bl true from q)
        cases (show u = Value.bool true from r')
        have as_ : ∀ b o, b ∉ cs.map (·.2) → s1.heap.get? b = some o → s'.heap.get? b = some o := fun b o nb e => by
          cases q : G b with
          | none => exact un.keep b o e q (fun z => absurd (show b ∈ ([] : List Addr) from z) (by simp)) (by simp)
          | some u =>
            rcases hO.rest b with z | z | ⟨ob, xs, z⟩
            · rw [q] at z
              cases z
            · exact absurd z nb
            · have e1 := (hok b _ z).1
              have e2 := (hok' b _ (un.frzs b ob _ z)).1
              rw [e] at e1
              cases e1
              exact e2
        have more : ∀ b, b ∈ cs.map (·.2) → ∃ ps : Array Value, s'.heap.get? b = some { cls := .none, data := .fields ps } := fun b hb => by
          obtain ⟨ps, z⟩ := un.tbls b #[] (hO.tbl b hb)
          exact ⟨_, hok' b _ z⟩
        refine ⟨rfl, ⟨fun b o e => ?_, fun b o e => ?_⟩, os, bare⟩
        · by_cases hb : b ∈ cs.map (·.2)
          · obtain ⟨ps, z⟩ := more b hb
            obtain ⟨p, hp, rfl⟩ := List.mem_map.mp hb
            rw [tE p hp] at e
            cases e
            exact .inr (.inl ⟨((tC p hp).tab (tE p hp)).isCodeTable, rfl, #[], ps, rfl, by rw [Array.empty_append]; exact z⟩)
          · exact .inl (as_ b o hb e)
        · by_cases hb : b ∈ cs.map (·.2)
          · obtain ⟨ps, z⟩ := more b hb
            exact ⟨_, z⟩
          · exact ⟨o, as_ b o hb e⟩
  have Gt : ∀ (G0 : Hp), (∀ b, b ∈ cs.map (·.2) → G0 b = some (.tbl #[])) → (∀ b, b ≠ a → b ∉ cs.map (·.2) → G0 b = none) → ∀ b u, b ≠ a → G0 b = some u → ObjOk P wo G0 s1.heap b u := fun G0 y1 y2 b u nb e => by
    by_cases hb : b ∈ cs.map (·.2)
    · rw [y1 b hb] at e
      cases e
      exact (atT b hb).1
    · rw [y2 b nb hb] at e
      cases e
  cases hk : K.lookup a with
  | some o =>
    have e := KX a o hk
    rw [ha] at e
    cases e
    have on : ∀ b, b ∈ cs.map (·.2) → (fun c => if c ∈ cs.map (·.2) then some (HO.tbl #[]) else none) b = some (HO.tbl #[]) := fun b z => if_pos z
    have off_ : ∀ b, b ∉ cs.map (·.2) → (fun c => if c ∈ cs.map (·.2) then some (HO.tbl #[]) else none) b = none := fun b z => if_neg z
    refine core (fun c => if c ∈ cs.map (·.2) then some (HO.tbl #[]) else none) ⟨on, fun b => ?_⟩ (.inr ⟨_, us.toArray, _, hk, rfl, rfl, rfl, by rw [List.size_toArray, lenV]; exact hl, by simpa using rv⟩) (fun b u z => ?_) (fun b z => ?_) fun z => absurd (off_ a aT) z
    · by_cases y : b ∈ cs.map (·.2)
      · exact .inr (.inl y)
      · exact .inl (off_ b y)
    · by_cases y : b = a
      · rw [y] at z
        exact absurd z (by rw [show (fun c => if c ∈ cs.map (·.2) then some (HO.tbl #[]) else none) a = none from off_ a aT]; simp)
      · exact Gt _ on (fun b _ z => off_ b z) b u y z
    · by_cases y : b ∈ cs.map (·.2)
      · exact .inr y
      · exact absurd (off_ b y) z
  | none =>
    generalize hG : (fun c => if c = a then some (HO.frz { cls := .type "list", data := .seq us.toArray } (.lst (ns.map V.int))) else if c ∈ cs.map (·.2) then some (HO.tbl #[]) else none : Hp) = G
    have at_ : G a = some (HO.frz { cls := .type "list", data := .seq us.toArray } (.lst (ns.map V.int))) := by rw [← hG]; exact if_pos rfl
    have on : ∀ b, b ∈ cs.map (·.2) → G b = some (HO.tbl #[]) := fun b z => by
      rw [← hG]
      exact (if_neg (fun y : b = a => aT (y ▸ z))).trans (if_pos z)
    have off_ : ∀ b, b ≠ a → b ∉ cs.map (·.2) → G b = none := fun b y z => by
      rw [← hG]
      exact (if_neg y).trans (if_neg z)
    refine core G ⟨on, fun b => ?_⟩ (.inl (.inr ⟨_, at_⟩)) (fun b u z => ?_) (fun b z => ?_) fun _ => hk
    · by_cases e : b = a
      · exact .inr (.inr ⟨_, _, by rw [e]; exact at_⟩)
      · by_cases y : b ∈ cs.map (·.2)
        · exact .inr (.inl y)
        · exact .inl (off_ b e y)
    · by_cases e : b = a
      · subst e
        rw [at_] at z
        cases z
        exact ⟨ha, by rw [List.length_map]; exact hl, us, _, rv, ha⟩
      · exact Gt G on off_ b u e z
    · by_cases e : b = a
      · exact .inl e
      · by_cases y : b ∈ cs.map (·.2)
        · exact .inr y
        · exact absurd (off_ b e y) z
end
theorem walk_GT {l : PySem.W.OpenLaw} {n k : Nat} {q : Program} {loose : List Str} {XP : (Str → Option Value) → Heap → Prop} {YP : World → Heap → Prop} {d : DefRec} {Z : CXT} {x : Str} (hn : l.most = some n) (hn2 : n ≤ sizeLine) (hdf : d.params.defaults = []) (hr : Room k callerA) (hgu : callerA.guards = some [])
    (F : ∀ (w : World) (mg : Str → Option Value) (fa : Addr) (h : Heap), YP w h → h.Ns mainGlobals mg → mg d.name = some (.ref fa) →
      ∃ (K : PySem.W.Frag) (fd : FuncData) (sp : Sp) (cs : List (Addr × Addr)), K.In h ∧ (∀ p ∈ cs, h.get? p.2 = some tab0) ∧ (∀ p ∈ cs, K.lookup p.2 = none) ∧ (∀ p ∈ cs, PySem.W.CodeHd h p.1 p.2) ∧ (∀ (s : Shared) (u : Value), BindsTo s fd ⟨[u], []⟩ [(x, u)]) ∧
        (∀ (H : Hp) (a : Addr) (ns : List Int), ns.length ≤ n → OnlyT (cs.map (·.2)) H → SqL K H a (ns.map V.int) → sp [.ref a] H (fun v _ => v = .bl true) fun _ _ _ => False) ∧
        ∀ b0 : Heap, K.In b0 → b0.Ns mainGlobals mg → (∀ p ∈ cs, TabB b0 mg p.1 p.2) → FnG l.prog w K mg b0 Z k fa fd [x] sp)
    (hZ : ∀ (H : Hp) (s : Shared) (e : Value) (s' : Shared), Z [] H s (fun _ _ _ => False) e s' → False) : PySem.W.WalkO q loose XP YP l.row.toRowW d [] (fun f vs => PySem.call f vs) := by
  refine Att.attach_call hn hdf fun w s0 s1 mg mb fa o pm cd doc a vs ns G Y ho hd hcd hmg hobj hints hlen hg => ?_
  obtain ⟨K, fd, sp, cs, KX, c1, c2, c3, hb, hsp, hF⟩ := F w mg fa _ Y G.T.g hmg
  exact law_callGT KX G.T.g G.T.b G.T.builtins G.T.nolimit hg c1 c2 c3 G.T.bmain hobj hints (Nat.le_trans hlen hn2) hr hgu hF hb (fun H hO hS => hsp H a ns hlen hO hS) fun H e s' => hZ H s1 e s'
/-- the law's promise, of what it makes of its script -/
theorem law_spT {w : Wd} {Ps : List Addr} {f : Fn} {H : Hp} {a : Addr} {ns : List Int} (hP : ∀ p ∈ w.T, p.1 ∈ Ps) (hO : OnlyT Ps H) (h : SqL w.K H a (ns.map V.int)) (e : f none [.scr (ns.map D.int)] = .ret (.bl true, false) none) : spT w 1 f [.ref a] H (fun v _ => v = .bl true) fun _ _ _ => False := by
  have tb : ∀ p ∈ w.T, H p.1 = some (.tbl #[]) := fun p hp => hO.tbl _ (hP p hp)
  have rl : ∀ (O : Av) (ns : List Int), RepL w O H (ns.map D.int) (ns.map V.int) := fun O ns => by
    induction ns with
    | nil => simp [RepL]
    | cons n ns ih => simp only [List.map_cons, RepL, Rep]; exact ⟨_, _, rfl, rfl, ih⟩
  refine ⟨fun b => ∃ p ∈ w.T, p.1 = b, none, [.scr (ns.map D.int)], fun b ⟨p, hp, z⟩ => ?_, rfl, fun p hp => ⟨⟨p, hp, rfl⟩, #[], tb p hp, True.intro, fun pos cv hc => ?_⟩, ?_, ?_⟩
  · rw [← z, tb p hp]
    simp
  · have z : codeAmong pos [] = some cv := hc
    simp [codeAmong] at z
  · show RepL w _ H [D.scr (ns.map D.int)] [.ref a]
    simp only [RepL, Rep]
    refine ⟨_, _, rfl, ⟨a, ns.map V.int, rfl, ?_, rl _ ns⟩, rfl⟩
    rcases h with (h | ⟨o, h⟩) | h
    · rcases hO.rest a with z | z | ⟨o, xs, z⟩
      · rw [h] at z; cases z
      · rw [hO.tbl a z] at h; cases h
      · rw [h] at z; cases z
    · refine .inl ⟨o, fun ⟨p, hp, q⟩ => ?_, h⟩
      have y := tb p hp
      rw [q, h] at y
      cases y
    · exact .inr h
  · rw [e]
    refine ⟨rfl, fun H' v _ r => ?_⟩
    have r1 := r.1
    simp only [Rep] at r1
    exact r1
/-! ### what is seen of the head -/
/-- without the things at ps -/
def dropK (ps : List Addr) (K : PySem.W.Frag) : PySem.W.Frag := K.filter fun e => !ps.contains e.1
theorem dropK_some {ps : List Addr} : ∀ {K : PySem.W.Frag} {a : Addr} {o : Obj}, (dropK ps K).lookup a = some o → K.lookup a = some o ∧ a ∉ ps
  | [], a, o, h => by cases h
  | (b, u) :: K, a, o, h => by
    unfold dropK at h
    rw [List.filter_cons] at h
    by_cases hb : ps.contains b = true
    · rw [if_neg (show ¬ ((!ps.contains b) = true) by rw [hb]; decide)] at h
      obtain ⟨h1, h2⟩ := dropK_some (K := K) h
      refine ⟨?_, h2⟩
      rw [List.lookup_cons]
      have ne : (a == b) = false := by
        rw [beq_eq_false_iff_ne]
        rintro rfl
        exact h2 (List.contains_iff_mem.mp hb)
      rw [ne]
      exact h1
    · rw [if_pos (show (!ps.contains b) = true by rw [Bool.not_eq_true'] ; exact Bool.not_eq_true _ ▸ hb)] at h
      rw [List.lookup_cons] at h ⊢
      cases e : a == b with
      | true =>
        rw [e] at h
        have : a = b := beq_iff_eq.mp e
        subst this
        exact ⟨h, fun z => hb (List.contains_iff_mem.mpr z)⟩
      | false =>
        rw [e] at h
        exact dropK_some (K := K) h
def isTab0 : Option Obj → Bool
  | some ⟨.none, none, .fields a, sl⟩ => a.size == 0 && sl.size == 0
  | _ => false
theorem isTab0_eq {o : Option Obj} (h : isTab0 o = true) : o = some tab0 := by
  unfold isTab0 at h
  split at h
  · rename_i a sl
    rw [Bool.and_eq_true, beq_iff_eq, beq_iff_eq] at h
    have e1 : a = #[] := Array.eq_empty_of_size_eq_zero h.1
    have e2 : sl = #[] := Array.eq_empty_of_size_eq_zero h.2
    rw [e1, e2]
  · cases h
def nodupA : List Addr → Bool
  | [] => true
  | a :: r => !r.contains a && nodupA r
theorem nodupA_ok : ∀ {l : List Addr}, nodupA l = true → l.Nodup
  | [], _ => List.nodup_nil
  | a :: r, h => by
    unfold nodupA at h
    rw [Bool.and_eq_true] at h
    refine List.nodup_cons.mpr ⟨fun z => ?_, nodupA_ok h.2⟩
    have : r.contains a = true := List.contains_iff_mem.mpr z
    rw [this] at h
    cases h.1
abbrev AlT : Type := AlM × Bool
/-! ### the tables of a law's defs -/
def lamQ (x : Str) : Str := x ++ ".<locals>." ++ "<lambda>"
/-- what the making of a lambda in the def x asks -/
structure TabX (K : PySem.W.Frag) (base : Heap) (mg : Str → Option Value) (T : List (Addr × Str)) (x : Str) (c P : Addr) : Prop where
  code : ∀ f, mg x = some (.ref f) → codeOf K f = some c
  tab : TabB base mg c P
  mem : (P, lamQ x) ∈ T
  uni : ∀ p ∈ T, p.1 = P → p.2 = lamQ x
end PM

/-! try: return x.m() / except A as n: return n.f -/
namespace PM
open PySem PySem.Spec PyProof.Rows L2
section
variable {w : Wd} {X : Cx} {c i i0 j k : Nat} {f1 m : Str} {g : Addr} {fn : Fn} {x n x1 : Str} {q0 q1 q3 q4 q5 r1 r2 r4 r5 pl0 : Pos} {pl : Sem Bool}
end
end PM

/-! operators of instances that may raise -/
namespace PM
open PySem PySem.Spec PyProof.Rows L2
section
variable {X : Cx} {w : Wd} {W : WX} {E : XK} {c n : Nat} {g : Addr} {fn : Fn} {ma mb : ME} {a b : Expr} {pos : Pos}
end
section
variable {w : Wd} {x : Str} {c : Nat} {a : Addr}
theorem OpOk.wT (h : OpOk w c x a) (T : List (Addr × Str)) : OpOk (w.wT T) c x a := ⟨h.sf, h.at_, h.fn⟩
theorem CmOk.wT (h : CmOk w c x a) (T : List (Addr × Str)) : CmOk (w.wT T) c x a := ⟨h.ex⟩
theorem PropOk.wT (h : PropOk w c x a) (T : List (Addr × Str)) : PropOk (w.wT T) c x a := ⟨h.sc, h.ex⟩
end
end PM

/-! what is known at a frame without tables, at one with them -/
namespace PM
open PySem PySem.Spec PyProof.Rows L2
section
variable {P : Program} {wo : World} {K : PySem.W.Frag} {mg : Str → Option Value} {base : Heap} {w : Wd} {x : Str} {c n j : Nat} {f : Fn} {a : Addr}
theorem DunOk.wT (h : DunOk w c x a) (T : List (Addr × Str)) : DunOk (w.wT T) c x a := ⟨h.at_, h.fn⟩
theorem EqOk.wT (h : EqOk w c a) (T : List (Addr × Str)) : EqOk (w.wT T) c a := ⟨h.at_, h.fn, h.ne, h.mr, h.nf⟩
theorem SetOk.wT {i : Nat} (h : SetOk w c x i) (T : List (Addr × Str)) : SetOk (w.wT T) c x i := ⟨h.sc, h.sl⟩
theorem ClsOk.wT (h : ClsOk w n) (T : List (Addr × Str)) : ClsOk (w.wT T) n := ⟨h.sc, h.si⟩
theorem SlotsOk.wT {ix : Nat → Option Nat} (h : SlotsOk w x ix) (T : List (Addr × Str)) : SlotsOk (w.wT T) x ix := h
theorem MkOk.wT (h : MkOk P wo K mg base w c n j f) (T : List (Addr × Str)) : MkOk P wo K mg base (w.wT T) c n j f := by
  obtain ⟨g, fd, ps, h1, h2, h3, h4⟩ := h.ex
  exact ⟨⟨g, fd, ps, h1, h2, by rw [spIn_T]; exact h3, h4⟩⟩
end
end PM

/-! the head's look: which error class is caught by which -/
namespace PM
open PySem PySem.Spec PyProof.Rows L2
/-! ### the head's look -/
def exmsB (xn : List (Nat × Str)) : Chk := fun K => xn.all fun p => xn.all fun q => obB (PySem.W.exmOne K (.ref (He.ga K p.2)) (.ref (He.ga K q.2))) (some (p.1 == q.1))
def AllC (cl : Nat → Addr) (g : Str → Addr) : List (Nat × Str) → Prop
  | [] => True
  | p :: r => cl p.1 = g p.2 ∧ AllC cl g r
theorem AllC.at {cl : Nat → Addr} {g : Str → Addr} : ∀ {l : List (Nat × Str)}, AllC cl g l → ∀ p ∈ l, cl p.1 = g p.2
  | [], _, p, h => by cases h
  | q :: r, ⟨h1, h2⟩, p, h => by
    rcases List.mem_cons.mp h with rfl | h
    · exact h1
    · exact AllC.at h2 p h
theorem exmsB_ok {K : PySem.W.Frag} {xn : List (Nat × Str)} {cl : Nat → Addr} (h : exmsB xn K = true) (hc : AllC cl (He.ga K) xn) : ∀ a ∈ xn.map (·.1), ∀ b ∈ xn.map (·.1), PySem.W.exmOne K (.ref (cl a)) (.ref (cl b)) = some (a == b) := by
  intro a ha b hb
  obtain ⟨p, hp, rfl⟩ := List.mem_map.mp ha
  obtain ⟨q, hq, rfl⟩ := List.mem_map.mp hb
  have e := List.all_eq_true.mp (List.all_eq_true.mp h p hp) q hq
  rw [hc.at p hp, hc.at q hq]
  simpa [obB] using e
end PM

/-! C(..) whose __init__ may raise; o.m(..), m a method that may raise -/
namespace PM
open PySem PySem.Spec PyProof.Rows L2
section
variable {P : Program} {wo : World} {K : PySem.W.Frag} {mg : Str → Option Value} {base : Heap} {w : Wd}
theorem init_okX (hT : w.T = []) {c : Nat} {x qual : Str} {st : Stmt} {f : Addr} {fd : FuncData} {N ps : List Str} {k : Nat} {m : MS} (F : Fun K x qual st f fd) (S : FnScope N ps (defScope st)) (hl : ps.length ≤ N.length)
    (hb : ∀ (cdv : Value) (A : Around) (outer : List Env) (s : Shared) (H : Hp) (E : XK), Room k (A.deeper (envOfC qual (defScope st) s.heap.objs.size f cdv)) → Takes (cxOf (L2.CX P wo) P wo K mg base N qual (defScope st) f cdv A outer s H E) (WF E) →
      PassesOwn (model P wo) (cxOf (L2.CX P wo) P wo K mg base N qual (defScope st) f cdv A outer s H E).A (cxOf (L2.CX P wo) P wo K mg base N qual (defScope st) f cdv A outer s H E).env (cxOf (L2.CX P wo) P wo K mg base N qual (defScope st) f cdv A outer s H E).xe →
      PMSs (cxOf (L2.CX P wo) P wo K mg base N qual (defScope st) f cdv A outer s H E) w (WF E) (defBody st) m) : FnOk P wo K mg base (L2.CX P wo) (k + 1) f fd ps (spIn w c ps.length (fnSem N.length ps.length m)) := by
  have len : ∀ vs H Q E, spIn w c ps.length (fnSem N.length ps.length m) vs H Q E → vs.length = ps.length := fun vs H Q E h => by
    obtain ⟨x, dx, vs', _, _, O, om, ds, _, hl, _⟩ := h
    exact hl
  refine F.okX S len fun cdv A outer s H vs Q E hr h => ?_
  obtain ⟨t, p, sm⟩ := hb cdv A outer s H E hr (takes_of rfl rfl rfl rfl) (passes_of rfl)
  obtain ⟨x, dx, vs', rfl, hsl, h⟩ := h
  refine ⟨_, pss_re (C := w.cl c) p, x, dx, ?_, hsl, body_ok hT sm (fun _ _ _ _ z => z) hl h⟩
  exact start_get (by rfl)
/-- the class c, its __init__, which may raise -/
structure MkX (P : Program) (wo : World) (K : PySem.W.Frag) (mg : Str → Option Value) (base : Heap) (w : Wd) (c n j : Nat) (f : Fn) : Prop where
  ex : ∃ g fd ps, ps.length = n + 1 ∧ Mk K (w.cl c) g ∧ FnOk P wo K mg base (L2.CX P wo) j g fd ps (spIn w c (n + 1) f) ∧ Binds K fd ps []
theorem MkX.wT {c n j : Nat} {f : Fn} (h : MkX P wo K mg base w c n j f) (T : List (Addr × Str)) : MkX P wo K mg base (w.wT T) c n j f := by
  obtain ⟨g, fd, ps, h1, h2, h3, h4⟩ := h.ex
  exact ⟨⟨g, fd, ps, h1, h2, by rw [spIn_T]; exact h3, h4⟩⟩
end
section
variable {w : Wd} {W : WX} {X : Cx} {pos p : Pos} {e : Expr} {es : List Expr} {mr : MA} {x : Str} {c n k : Nat} {fn : Fn} {E : XK}
theorem make_coreX {O : Av} {H : Hp} {xs : List D} {vs : List V} {xc : Xc} {o1 : Option Mu} {Q : VK} (dm : Dm O H) (hl : xs.length = n) (e : fn (some (.ins c [])) xs = .exc xc o1) (ho : o1.isSome = true) (rs : RepL w O H xs vs) (g : ∀ H' cls d, Grow H H' → XcAt w O H' cls d xc → E cls d H') :
    ∀ x dx, H x = none → H dx = none → dx ≠ x → spIn w c (n + 1) fn (V.ref x :: vs) (upd (upd H dx (.own x)) x (.ins (w.cl c) dx [])) (fun v H2 => v = .non ∧ Q (.ref x) H2) E := by
  intro x dx hx hdx ne
  refine ⟨x, dx, vs, rfl, .inl ⟨upd_same, rfl⟩, ?_⟩
  generalize hH : SlX.slH (upd (upd H dx (.own x)) x (.ins (w.cl c) dx [])) x (w.cl c) dx [] = H3
  have e1 : H3 x = some (SlX.SlO x (w.cl c) dx []) := by rw [← hH]; unfold SlX.slH; rw [upd_same]
  have e2 : H3 dx = some (.xd []) := by rw [← hH]; unfold SlX.slH; rw [upd_ne ne, upd_same]
  have gr : Grow H H3 := fun a o q => by
    have n1 : a ≠ x := fun z => by rw [z, hx] at q; cases q
    have n2 : a ≠ dx := fun z => by rw [z, hdx] at q; cases q
    rw [← hH, SlX.slH_ne n1 n2, upd_ne n1, upd_ne n2]
    exact q
  have nox : ¬ O x := fun q => dm x q hx
  have nodx : ¬ ins O x dx := fun q => q.elim (fun q => dm dx q hdx) ne
  refine ⟨ins O x, some (.ins c []), xs, fun a q => ?_, by rw [List.length_cons, rs.length, hl], ⟨x, vs, rfl, .inr rfl, ⟨dx, [], e1, ne, nodx, e2, rfl⟩, RepL.step (ins_step gr hx) xs vs rs⟩, ?_⟩
  · rcases q with q | q
    · exact gr.dom (dm a q)
    · rw [q, e1]; simp
  · rw [e]
    refine ⟨by rw [ho]; rfl, fun H' cls d sy _ xa => g H' cls d (fun a o q => sy.kept a o (fun z => ?_) (gr a o q)) (xa.step fun a q => .inl q)⟩
    have z2 := z.2
    simp at z2
    rw [← z2, hx] at q
    cases q
def mMakeX (c : Nat) (f : Fn) (mr : MA) : ME := fun ρ => (mr ρ).bind fun xs ρ1 => match f (some (.ins c [])) xs with
  | .exc xc (some _) => .exc xc ρ1
  | _ => lift (mkF c f xs) ρ1
end
/-! ### methods -/
section
variable {w : Wd} {W : WX} {X : Cx} {pos apos : Pos} {o e : Expr} {es : List Expr} {m : ME} {mr : MA} {f : Str} {E : XK}
end
end PM

/-! match e: with cases that are words ('a' | 'b'), no guards -/
namespace L2
open PySem PySem.Spec PyProof.Rows
/-- the words of a list of patterns, each a text -/
inductive PatL : List Pattern → List Str → Prop
  | nil : PatL [] []
  | cons {x : Str} {j p p' ps xs} : PatL ps xs → PatL (.MatchValue (.Constant (.str x) j p) p' :: ps) (x :: xs)
inductive PatW : Pattern → List Str → Prop
  | one {x : Str} {j p p'} : PatW (.MatchValue (.Constant (.str x) j p) p') [x]
  | ors {ps xs p} : PatL ps xs → PatW (.MatchOr ps p) xs
section
variable {X : Cx} {pins : List (Addr × Obj)} {σ : St} {H : Hp} {y : Str} {t : Tok}
def MPost (X : Cx) (pins : List (Addr × Obj)) (σ : St) (H : Hp) (b : Bool) (r : Option (List (Str × Value))) (s' : Shared) : Prop := Inv X pins σ H s' ∧ r = if b = true then some [] else none
theorem mv_one {x : Str} {j p p'} {s : Shared} (I : Inv X pins σ H s) : wpAny (model X.prog X.w) X.A (matchPattern (.MatchValue (.Constant (.str x) j p) p') X.env (.str y t)) (MPost X pins σ H (y == x)) X.xe s := by
  refine wpAny_matchPattern_Value (Calls.Constant_str (eq_str (wpAny_truthy_bool ?_)))
  cases q : y == x with
  | true => exact ⟨I.tok _, rfl⟩
  | false => exact ⟨I.tok _, rfl⟩
theorem mf_all : ∀ {ps : List Pattern} {xs : List Str}, PatL ps xs → ∀ {s : Shared}, Inv X pins σ H s → wpAny (model X.prog X.w) X.A (matchFirst ps X.env (.str y t)) (MPost X pins σ H (xs.any (y == ·))) X.xe s
  | _, _, .nil, s, I => wpAny_matchFirst_nil ⟨I, rfl⟩
  | _, _, .cons (x := x) (xs := xs) h, s, I => by
    refine wpAny_matchFirst_cons (thn (mv_one (x := x) I) fun r s1 ⟨I1, e⟩ => ?_)
    subst e
    cases q : y == x with
    | true => exact ⟨I1, by simp [q]⟩
    | false =>
      have z := mf_all h I1
      rw [show (x :: xs).any (y == ·) = xs.any (y == ·) by simp [q]]
      exact z
theorem mp_all {p : Pattern} {xs : List Str} (h : PatW p xs) {s : Shared} (I : Inv X pins σ H s) : wpAny (model X.prog X.w) X.A (matchPattern p X.env (.str y t)) (MPost X pins σ H (xs.any (y == ·))) X.xe s := by
  cases h with
  | one =>
    rename_i x j p p'
    have z := mv_one (y := y) (t := t) (x := x) (j := j) (p := p) (p' := p') I
    rw [show [x].any (y == ·) = (y == x) by simp]
    exact z
  | ors h =>
    refine wpAny_matchPattern_Or (thn (mf_all h I) fun r s1 ⟨I1, e⟩ => ?_)
    subst e
    cases q : xs.any (y == ·) with
    | true => exact ⟨I1, by simp⟩
    | false => exact ⟨I1, rfl⟩
/-- the cases, each with its words -/
inductive CasesOk (X : Cx) : List MatchCase → List (List Str × TS) → Prop
  | nil : CasesOk X [] []
  | cons {p xs body ts cs rs} : PatW p xs → PSs X body ts → CasesOk X cs rs → CasesOk X (⟨p, none, body⟩ :: cs) ((xs, ts) :: rs)
def tCs (y : Str) : List (List Str × TS) → TS
  | [] => fun E σ H => E.nx σ H
  | (xs, ts) :: rs => fun E σ H => if xs.any (y == ·) = true then ts E σ H else tCs y rs E σ H
def tMatch (te : TE) (rs : List (List Str × TS)) : TS := fun E σ H => te σ H fun v H1 => ∃ y, v = .str y ∧ tCs y rs E σ H1
theorem mc_all : ∀ {cs : List MatchCase} {rs : List (List Str × TS)}, CasesOk X cs rs → ∀ {f : Bool} {s : Shared} {D : Ends}, Inv X pins σ H s → tCs y rs D σ H →
    wpAny (model X.prog X.w) X.A (matchCases cs X.env (.str y t) f) (SP X pins D) X.xe s
  | _, _, .nil, f, s, D, I, h => wpAny_matchCases_nil ⟨σ, H, I, h⟩
  | _, _, .cons (xs := xs) hp hb hc, f, s, D, I, h => by
    refine wpAny_matchCases_cons (thn (mp_all hp I) fun r s1 ⟨I1, e⟩ => ?_)
    subst e
    unfold tCs at h
    cases q : xs.any (y == ·) with
    | true =>
      rw [if_pos q] at h
      exact wpAny_assignInOrder_none (hb.run pins s1 σ H D I1 h)
    | false =>
      rw [if_neg (by rw [q]; decide)] at h
      exact mc_all hc I1 h
theorem ps_match {e : Expr} {te : TE} {cs : List MatchCase} {rs : List (List Str × TS)} {pos : Pos} (he : PE X e te) (hc : CasesOk X cs rs) : PS X (.Match e cs pos) (tMatch te rs) := by
  refine ⟨fun pins s σ H D I h => ?_⟩
  refine wpAny_Match (thn (he.run pins s σ H _ I h) fun u s1 ⟨v, H1, I1, r, q⟩ => ?_)
  obtain ⟨y, rfl, q⟩ := q
  obtain ⟨t, rfl⟩ := _root_.id r
  exact mc_all hc I1 q
end
end L2
namespace PM
open PySem L2
/-- the cases' meaning -/
def mCs (y : Str) : List (List Str × MS) → MS
  | [] => fun ρ => .ok .nx ρ
  | (xs, m) :: rs => fun ρ => if xs.any (y == ·) = true then m ρ else mCs y rs ρ
def mMatch (e : ME) (rs : List (List Str × MS)) : MS := fun ρ => (e ρ).bind fun x ρ1 => match x with
  | (.str y, false) => mCs y rs ρ1
  | _ => .stuck
section
variable {w : Wd} {W : WX} {X : Cx} {pos : Pos} {e : Expr} {m : ME}
inductive PMCs (X : Cx) (w : Wd) (W : WX) : List MatchCase → List (List Str × MS) → Prop
  | nil : PMCs X w W [] []
  | cons {p xs body ms cs rs} : PatW p xs → PMSs X w W body ms → PMCs X w W cs rs → PMCs X w W (⟨p, none, body⟩ :: cs) ((xs, ms) :: rs)
theorem pmcs_ok : ∀ {cs : List MatchCase} {rs : List (List Str × MS)}, PMCs X w W cs rs → ∃ ts, CasesOk X cs ts ∧ ∀ y, SimS w W (tCs y ts) (mCs y rs)
  | _, _, .nil => ⟨[], .nil, fun y F O ρ σ H E hw R hh => hh O σ H (Step.refl _ _) R⟩
  | _, _, .cons (xs := xs) hp hb hc => by
    obtain ⟨t, p1, s1⟩ := hb
    obtain ⟨ts, p2, s2⟩ := pmcs_ok hc
    refine ⟨(xs, t) :: ts, .cons hp p1 p2, fun y F O ρ σ H E hw R hh => ?_⟩
    unfold tCs
    unfold mCs at hh
    by_cases q : xs.any (y == ·) = true
    · rw [if_pos q] at hh ⊢
      exact s1 F O ρ σ H E hw R hh
    · rw [if_neg q] at hh ⊢
      exact s2 y F O ρ σ H E hw R hh
theorem pms_match {cs : List MatchCase} {rs : List (List Str × MS)} (he : PM X w W e m) (hc : PMCs X w W cs rs) : PMS X w W (.Match e cs pos) (mMatch m rs) := by
  obtain ⟨te, pe, se⟩ := he
  obtain ⟨ts, p2, s2⟩ := pmcs_ok hc
  refine ⟨_, ps_match pe p2, fun F O ρ σ H E hw R hh => ?_⟩
  refine se.bindS hw R hh fun x v ρ1 O1 H1 st1 R1 rv h1 => ?_
  obtain ⟨d, b⟩ := x
  cases b with
  | true => cases d <;> exact h1.elim
  | false =>
    cases d with
    | str y =>
      have rv : Rep F.w O1 H1 (.str y) v := rv
      simp only [Rep] at rv
      exact ⟨y, rv, s2 y F O1 ρ1 σ H1 E hw R1 h1⟩
    | _ => exact h1.elim
end
end PM

/-! C(e, ..) where __init__ has keyword-only parameters, all of which lack: their defaults are put behind -/
namespace PM
open PySem PySem.Spec PyProof.Rows L2
section
variable {P : Program} {wo : World} {K : PySem.W.Frag} {mg : Str → Option Value} {base : Heap} {w : Wd}
/-- a written default: data that stands for itself everywhere -/
def CsR (w : Wd) (dD : List D) (dV : List V) : Prop := ∀ O H, RepL w O H dD dV
theorem csR_bl (b : Bool) : CsR w [.bl b] [.bl b] := fun O H => by simp [RepL, Rep]
theorem funD_of {x qual : Str} {st : Stmt} {f : Addr} {fd : FuncData} {kws : List (Str × V)} (F : Fun K x qual st f fd) (h : ∀ kV, (∃ oc od osl, K.lookup f = some ⟨oc, od, .func fd, osl⟩) → fd.kwdefaults = kV → KwdV K kV kws) :
    FunD K x qual (defArgs st) (defBody st) (defScope st) [] kws f fd := by
  obtain ⟨oc, od, kV, doc, pm, an, cdv, ct, osl, e, lk, hcd⟩ := F.ex
  refine ⟨⟨oc, od, .none, kV, doc, pm, an, cdv, ct, osl, e, lk, hcd, .inl ⟨rfl, rfl⟩, h kV ⟨oc, od, osl, lk⟩ ?_⟩, F.kp⟩
  rw [e]
/-- the keyword-only defaults of the def at f, as a look at the written part tells -/
def kwChk (f : Addr) (kws : List (Str × V)) (K : PySem.W.Frag) : Bool := match K.lookup f with
  | some ⟨_, _, .func fd, _⟩ => He.kwdB K fd.kwdefaults kws
  | _ => false
theorem funD_chk {x qual : Str} {st : Stmt} {f : Addr} {fd : FuncData} {kws : List (Str × V)} (F : Fun K x qual st f fd) (h : kwChk f kws K = true) : FunD K x qual (defArgs st) (defBody st) (defScope st) [] kws f fd := funD_of F fun kV ⟨oc, od, osl, lk⟩ e => by
  unfold kwChk at h
  rw [lk] at h
  rw [← e]
  exact He.kwdB_ok h
structure MkXD (P : Program) (wo : World) (K : PySem.W.Frag) (mg : Str → Option Value) (base : Heap) (w : Wd) (c n j : Nat) (dD : List D) (f : Fn) : Prop where
  ex : ∃ g fd ps ds dV, Mk K (w.cl c) g ∧ FnOk P wo K mg base (L2.CX P wo) j g fd ps (spIn w c (n + dD.length + 1) f) ∧ Binds K fd ps ds ∧ Vals dV ds ∧ CsR w dD dV
theorem MkXD.wT {c n j : Nat} {dD : List D} {f : Fn} (h : MkXD P wo K mg base w c n j dD f) (T : List (Addr × Str)) : MkXD P wo K mg base (w.wT T) c n j dD f := by
  obtain ⟨g, fd, ps, ds, dV, h2, h3, h4, h5, h6⟩ := h.ex
  exact ⟨⟨g, fd, ps, ds, dV, h2, by rw [spIn_T]; exact h3, h4, h5, fun O H => (repL_T _ _).mpr (h6 O H)⟩⟩
end
section
variable {w : Wd} {W : WX} {X : Cx} {pos p : Pos} {e : Expr} {es : List Expr} {mr : MA} {x : Str} {c n k : Nat} {fn : Fn} {E : XK} {dD : List D} {dV : List V}
/-- the meaning: the defaults stand behind what is given -/
def wD (dD : List D) (f : Fn) : Fn := fun om xs => f om (xs ++ dD)
theorem repL_app {O : Av} {H : Hp} : ∀ {xs : List D} {vs : List V} {ys : List D} {us : List V}, RepL w O H xs vs → RepL w O H ys us → RepL w O H (xs ++ ys) (vs ++ us)
  | [], _, _, _, h, g => by
    simp only [RepL] at h
    subst h
    exact g
  | x :: xs, _, ys, us, h, g => by
    simp only [RepL] at h
    obtain ⟨v, vs, rfl, h1, h2⟩ := h
    show RepL w O H (x :: (xs ++ ys)) (v :: (vs ++ us))
    simp only [RepL]
    exact ⟨v, vs ++ us, rfl, h1, repL_app h2 g⟩
theorem sim_makeXD {t : TA} (hd : CsR w dD dV) (hr : SimA w (WF E) t mr) (hn : ∀ (ρ ρ1 : En) (xs : List D), mr ρ = .ok xs ρ1 → xs.length = n) : Sim w (WF E) (tMake (w.cl c) (spIn w c (n + dD.length + 1) fn) dV E t) (mMakeX c (wD dD fn) mr) := fun F O ρ σ H Q hw R hh => by
  subst hw
  have key : Hold F (WF E) O σ H (RV F σ H) Q ((mr ρ).bind fun xs ρ1 => if xs.length = n then (match (wD dD fn) (some (.ins c [])) xs with
    | .exc xc (some _) => .exc xc ρ1
    | _ => lift (mkF c (wD dD fn) xs) ρ1) else .stuck) := by
    unfold mMakeX at hh
    cases q : mr ρ with
    | ok xs ρ1 =>
      rw [q] at hh
      show Hold F (WF E) O σ H (RV F σ H) Q (if xs.length = n then _ else _)
      rw [if_pos (hn ρ ρ1 xs q)]
      exact hh
    | exc x ρ1 => rw [q] at hh; exact hh
    | stuck => rw [q] at hh; exact hh
  refine hr.bind rfl R key fun xs vs ρ1 O1 H1 st1 R1 rs h1 => ?_
  have rs2 := repL_app rs (hd O1 H1)
  split at h1
  · rename_i hl
    have hl2 : (xs ++ dD).length = n + dD.length := by rw [List.length_append, hl]
    split at h1
    · rename_i xc mu q
      intro x dx hx hdx ne
      exact make_coreX R1.dom hl2 q rfl rs2 (fun H' cls d g xa => h1 O1 H' cls d (st1.trans g.step) (R1.grow g) xa) x dx hx hdx ne
    · cases q : mkF c (wD dD fn) xs with
      | none => rw [q] at h1; exact h1.elim
      | some z =>
        rw [q] at h1
        intro x dx hx hdx ne
        have q2 : mkF c fn (xs ++ dD) = some z := q
        exact make_core R1.dom hl2 q2 rs2 (h1.go st1 R1) x dx hx hdx ne
  · exact h1.elim
theorem pm_makeXD (tk : Takes X (WF E)) (M : MkXD X.prog X.w X.K X.mg X.base w c n k dD fn) (hr : Room (k + 1) X.A) (hg : Gl X x) (hm : X.mg x = some (.ref (w.cl c))) (ha : PMA X w (WF E) (e :: es) mr) (hn : Len mr n) (hdb : (x == ("__debug__" : Str)) = false := by decide)
    (he : starEach (e :: es) X.env = (false, eval e X.env) :: starEach es X.env := by rfl) (hpl : (backTo pos (starEach es X.env)).any (·.1) = false := by rfl) : PM X w (WF E) (.Call (.Name x p) (e :: es) [] pos) (mMakeX c (wD dD fn) mr) := by
  obtain ⟨g, fd, ps, ds, dV, M, F, hb, hv, hc⟩ := M.ex
  obtain ⟨ta, pa, sa⟩ := ha
  exact ⟨_, pe_make M F hr hg hm hb hv (passes_call tk fun _ _ _ _ z => z) pa hdb he hpl, sim_makeXD hc sa fun ρ ρ1 xs q => hn ρ ρ1 xs q⟩
end
end PM

/-! records: instances with a dict; one's own ones may be changed -/
namespace PM
open PySem PySem.Spec PyProof.Rows L2
/-- what is known of such a class: its instances' attributes are found in their dicts -/
structure RcOk (w : Wd) (c : Nat) : Prop where
  cl : Cls w.K (w.cl c)
theorem RcOk.wT {w : Wd} {c : Nat} (h : RcOk w c) (T : List (Addr × Str)) : RcOk (w.wT T) c := ⟨h.cl⟩
/-- no attribute of the class has the name -/
structure NoA (w : Wd) (c : Nat) (f : Str) : Prop where
  no : NoAttr w.K (w.cl c) f
theorem NoA.wT {w : Wd} {c : Nat} {f : Str} (h : NoA w c f) (T : List (Addr × Str)) : NoA (w.wT T) c f := ⟨h.no⟩
def fldN (f : Str) : List Str → List D → Option D
  | n :: ns, d :: ds => if n = f then some d else fldN f ns ds
  | _, _ => none
def putN (f : Str) : List Str → List Str
  | [] => [f]
  | n :: ns => if n = f then n :: ns else n :: putN f ns
def putR (f : Str) (x : D) : List Str → List D → List D
  | [], _ => [x]
  | n :: ns, d :: ds => if n = f then x :: ds else d :: putR f x ns ds
  | _ :: _, [] => []
section
variable {w : Wd} {O : Av} {H : Hp} {f : Str}
theorem fldN_rep : ∀ {ns : List Str} {ds : List D} {vs : List V} {d : D}, RepL w O H ds vs → fldN f ns ds = some d → ∃ v, (ns.zip vs).lookup f = some v ∧ Rep w O H d v
  | [], _, _, _, _, h => by cases h
  | _ :: _, [], _, _, _, h => by cases h
  | n :: ns, d0 :: ds, vs, d, r, h => by
    simp only [RepL] at r
    obtain ⟨v, vs', rfl, r1, r2⟩ := r
    unfold fldN at h
    by_cases q : n = f
    · rw [if_pos q] at h
      cases h
      subst q
      exact ⟨v, by simp [List.lookup], r1⟩
    · rw [if_neg q] at h
      obtain ⟨u, e, ru⟩ := fldN_rep r2 h
      have z : (f == n) = false := beq_eq_false_iff_ne.mpr (Ne.symm q)
      exact ⟨u, by simp [List.lookup, z, e], ru⟩
theorem putR_rep {x : D} {v : V} (rx : Rep w O H x v) : ∀ {ns : List Str} {ds : List D} {vs : List V}, RepL w O H ds vs → vs.length = ns.length →
    ∃ us, putF f v (ns.zip vs) = (putN f ns).zip us ∧ us.length = (putN f ns).length ∧ RepL w O H (putR f x ns ds) us
  | [], ds, vs, r, l => by
    cases vs with
    | nil => exact ⟨[v], rfl, rfl, by unfold putR; simp only [RepL]; exact ⟨v, [], rfl, rx, rfl⟩⟩
    | cons _ _ => cases l
  | n :: ns, [], vs, r, l => by
    simp only [RepL] at r
    subst r
    cases l
  | n :: ns, d :: ds, vs, r, l => by
    simp only [RepL] at r
    obtain ⟨u, vs', rfl, r1, r2⟩ := r
    by_cases q : n = f
    · refine ⟨v :: vs', ?_, ?_, ?_⟩
      · simp [putF, putN, if_pos q]
      · simp only [putN, if_pos q]; simpa using l
      · simp only [putR, if_pos q, RepL]
        exact ⟨v, vs', rfl, rx, r2⟩
    · obtain ⟨us, e1, e2, e3⟩ := putR_rep rx r2 (by simpa using l)
      refine ⟨u :: us, ?_, ?_, ?_⟩
      · simp [putF, putN, if_neg q, e1]
      · simp only [putN, if_neg q]; simp [e2]
      · simp only [putR, if_neg q, RepL]
        exact ⟨u, us, rfl, r1, e3⟩
end
/-! ### reading -/
/-- x.f, x one's own record in the slot i -/
def mFldR (i c : Nat) (f : Str) : ME := fun ρ => match muOf i ρ with
  | some (_, .rcd c' ns ds) => if c' = c then lift ((fldN f ns ds).map fun d => (d, false)) ρ else .stuck
  | _ => .stuck
section
variable {w : Wd} {W : WX} {X : Cx} {pos pos' p : Pos} {e : Expr} {m : ME} {x f : Str}
theorem pm_fldR {i c : Nat} (hK : w.K = X.K) (hc : RcOk w c) (hn : NoA w c f) (hN : X.N[i]? = some x := by rfl) (hv : Vis X.env.scope x := by first | exact Or.inl rfl | exact Or.inr (Or.inl rfl) | exact Or.inr (Or.inr rfl)) (hd : (x == ("__debug__" : Str)) = false := by decide)
    (hcd : (x == ("__classdict__" : Str)) = false := by decide) (hb : attributeBase (.Name x p) f X.env (eval (.Name x p) X.env) = eval (.Name x p) X.env := by rfl) : PM X w W (.Attribute (.Name x p) f pos) (mFldR i c f) := by
  refine ⟨_, pe_fld (pe_var hN hv hd hcd) hb, fun F O ρ σ H Q hw R hh => ?_⟩
  subst hw
  unfold mFldR at hh
  split at hh
  · rename_i s c' ns ds q
    split at hh
    · rename_i ec
      subst ec
      obtain ⟨e1, g1⟩ := muOf_some q
      obtain ⟨a, ea, oa, dx, vs, h1, h2, h3⟩ := R.muAt e1 g1
      cases q2 : fldN f ns ds with
      | none => rw [q2] at hh; exact hh.elim
      | some d =>
        rw [q2] at hh
        obtain ⟨v, l, rv⟩ := fldN_rep h3 q2
        rw [← hK]
        exact ⟨.ref a, ea, a, F.w.cl c', dx, _, v, rfl, h1, hc.cl, hn.no, l, (hh.go (z := (d, false)) (Step.refl _ _) R).val rv⟩
    · exact hh.elim
  · exact hh.elim
/-! ### writing -/
/-- x.f = e, x one's own record in the slot i -/
def mSetR (i c : Nat) (f : Str) (m : ME) : MS := fun ρ => (m ρ).bind fun y ρ1 => match muOf i ρ1 with
  | some (s, .rcd c' ns ds) => if c' = c ∧ ns.length < 1000 then .ok .nx (ρ1.set i (s.put (.rcd c' (putN f ns) (putR f y.1 ns ds)))) else .stuck
  | _ => .stuck
theorem pms_setR {i c : Nat} (hK : w.K = X.K) (hc : RcOk w c) (hn : NoA w c f) (he : PM X w W e m) (hN : X.N[i]? = some x := by rfl) (hv : Vis X.env.scope x := by first | exact Or.inl rfl | exact Or.inr (Or.inl rfl) | exact Or.inr (Or.inr rfl)) (hd : (x == ("__debug__" : Str)) = false := by decide)
    (hcd : (x == ("__classdict__" : Str)) = false := by decide) (hs : swapsWith e (some (.Attribute (.Name x p) f pos')) pos.line X.env = pure false := by rfl) : PMS X w W (.Assign [.Attribute (.Name x p) f pos'] e pos) (mSetR i c f m) := by
  obtain ⟨te, pe, se⟩ := he
  refine ⟨_, ps_fld (pe_var hN hv hd hcd) pe hs, fun F O ρ σ H E hw R hh => ?_⟩
  subst hw
  refine se.bindS rfl R hh fun y v ρ1 O1 H1 st1 R1 rv h1 => ?_
  obtain ⟨O2, s2, R2, r2, s3⟩ := VlAt.release st1 R1 R.doh rv
  split at h1
  · rename_i s c' ns ds q
    split at h1
    · rename_i ec
      obtain ⟨rfl, hl⟩ := ec
      obtain ⟨e1, g1⟩ := muOf_some q
      obtain ⟨a, ea, oa, dx, vs, m1, m2, m3⟩ := R2.muAt e1 g1
      have st : Step O2 H1 O2 (upd H1 a (.ins (F.w.cl c') dx (putF f v (ns.zip vs)))) := mut_step oa
      obtain ⟨us, p1, p2, p3⟩ := putR_rep (f := f) r2 m3 m2
      rw [← hK]
      refine ⟨.ref a, ea, a, F.w.cl c', dx, _, rfl, m1, hc.cl, hn.no, by rw [List.length_zip, m2]; omega, ?_⟩
      refine h1 O2 σ _ (s3.trans st) (R2.mut e1 g1 ea oa ⟨dx, us, ?_, p2, RepL.step st _ _ p3⟩)
      rw [upd_same, p1]
    · exact h1.elim
  · exact h1.elim
end
/-! ### making -/
structure MkR (P : Program) (wo : World) (K : PySem.W.Frag) (mg : Str → Option Value) (base : Heap) (w : Wd) (c n j : Nat) (f : Fn) : Prop where
  ex : ∃ g fd ps, Mk K (w.cl c) g ∧ FnOk P wo K mg base (L2.CX P wo) j g fd ps (spOf w (n + 1) f) ∧ Binds K fd ps []
theorem MkR.wT {P : Program} {wo : World} {K : PySem.W.Frag} {mg : Str → Option Value} {base : Heap} {w : Wd} {c n j : Nat} {f : Fn} (h : MkR P wo K mg base w c n j f) (T : List (Addr × Str)) : MkR P wo K mg base (w.wT T) c n j f := by
  obtain ⟨g, fd, ps, h2, h3, h4⟩ := h.ex
  exact ⟨⟨g, fd, ps, h2, by rw [spOf_T]; exact h3, h4⟩⟩
/-- C(..): a new record, one's own -/
def mMakeR (c : Nat) (f : Fn) (mr : MA) : ME := fun ρ => (mr ρ).bind fun xs ρ1 => match f (some (.rcd c [] [])) xs with
  | .ret (.non, false) (some (.rcd c' ns ds)) => .ok (.rcd c' ns ds, true) ρ1
  | .exc xc (some _) => .exc xc ρ1
  | _ => .stuck
section
variable {w : Wd} {W : WX} {X : Cx} {pos p : Pos} {e : Expr} {es : List Expr} {mr : MA} {x : Str} {c n k : Nat} {fn : Fn} {E : XK}
theorem sim_makeR {t : TA} (hr : SimA w (WF E) t mr) (hn : ∀ (ρ ρ1 : En) (xs : List D), mr ρ = .ok xs ρ1 → xs.length = n) : Sim w (WF E) (tMake (w.cl c) (spOf w (n + 1) fn) [] E t) (mMakeR c fn mr) := fun F O ρ σ H Q hw R hh => by
  subst hw
  have key : Hold F (WF E) O σ H (RV F σ H) Q ((mr ρ).bind fun xs ρ1 => if xs.length = n then (match fn (some (.rcd c [] [])) xs with
    | .ret (.non, false) (some (.rcd c' ns ds)) => .ok (.rcd c' ns ds, true) ρ1
    | .exc xc (some _) => .exc xc ρ1
    | _ => .stuck) else .stuck) := by
    unfold mMakeR at hh
    cases q : mr ρ with
    | ok xs ρ1 =>
      rw [q] at hh
      show Hold F (WF E) O σ H (RV F σ H) Q (if xs.length = n then _ else _)
      rw [if_pos (hn ρ ρ1 xs q)]
      exact hh
    | exc x ρ1 => rw [q] at hh; exact hh
    | stuck => rw [q] at hh; exact hh
  refine hr.bind rfl R key fun xs vs ρ1 O1 H1 st1 R1 rs h1 => ?_
  split at h1
  · rename_i hl
    intro x dx hx hdx ne
    rw [List.append_nil]
    have dm := R1.dom
    generalize hH : upd (upd H1 dx (.own x)) x (.ins (F.w.cl c) dx []) = H3
    have e1 : H3 x = some (.ins (F.w.cl c) dx []) := by rw [← hH, upd_same]
    have gr : Grow H1 H3 := fun a o q => by
      have n1 : a ≠ x := fun z => by rw [z, hx] at q; cases q
      have n2 : a ≠ dx := fun z => by rw [z, hdx] at q; cases q
      rw [← hH, upd_ne n1, upd_ne n2]
      exact q
    refine ⟨ins O1 x, some (.rcd c [] []), xs, fun a q => ?_, by rw [List.length_cons, rs.length, hl], ⟨x, vs, rfl, .inr rfl, ⟨dx, [], e1, rfl, by simp only [RepL]⟩, RepL.step (ins_step gr hx) xs vs rs⟩, ?_⟩
    · rcases q with q | q
      · exact gr.dom (dm a q)
      · rw [q, e1]; simp
    · have keptB : ∀ {H' : Hp}, (∀ a o, ¬ (IoB (some (Mu.rcd c [] [])) (V.ref x :: vs) a) → H3 a = some o → H' a = some o) → Grow H1 H' := fun {H'} sy a o q => sy a o (fun z => by
        have z2 := z.2
        simp at z2
        rw [← z2, hx] at q
        cases q) (gr a o q)
      split at h1
      · rename_i c' ns ds q
        rw [q]
        refine ⟨rfl, fun H' v sy rf => ?_⟩
        obtain ⟨r1, a, ha, r2⟩ := rf
        simp only [Rep] at r1
        cases (show some (V.ref x) = some (.ref a) from ha)
        refine ⟨r1, ?_⟩
        exact (h1.go st1 R1) (.ref x) H' (keptB sy.kept) ⟨x, .rcd c' ns ds, rfl, hx, rfl, r2⟩
      · rename_i xc mu q
        rw [q]
        refine ⟨rfl, fun H' cls d sy _ xa => ?_⟩
        have g := keptB sy.kept
        exact h1 O1 H' cls d (st1.trans g.step) (R1.grow g) (xa.step fun a q => .inl q)
      · exact h1.elim
  · exact h1.elim
theorem pm_makeR (tk : Takes X (WF E)) (M : MkR X.prog X.w X.K X.mg X.base w c n k fn) (hr : Room (k + 1) X.A) (hg : Gl X x) (hm : X.mg x = some (.ref (w.cl c))) (ha : PMA X w (WF E) (e :: es) mr) (hn : Len mr n) (hdb : (x == ("__debug__" : Str)) = false := by decide)
    (he : starEach (e :: es) X.env = (false, eval e X.env) :: starEach es X.env := by rfl) (hpl : (backTo pos (starEach es X.env)).any (·.1) = false := by rfl) : PM X w (WF E) (.Call (.Name x p) (e :: es) [] pos) (mMakeR c fn mr) := by
  obtain ⟨g, fd, ps, M, F, hb⟩ := M.ex
  obtain ⟨ta, pa, sa⟩ := ha
  exact ⟨_, pe_make M F hr hg hm hb .nil (passes_call tk fun _ _ _ _ z => z) pa hdb he hpl, sim_makeR sa fun ρ ρ1 xs q => hn ρ ρ1 xs q⟩
/-- x = C(..), x one's own record from then on -/
def mAsgR (i : Nat) (m : ME) : MS := fun ρ => (m ρ).bind fun x ρ1 => match x with
  | (.rcd c ns ds, true) => if notIo (ρ1[i]?) = true then .ok .nx (ρ1.set i (.own (.rcd c ns ds))) else .stuck
  | _ => .stuck
theorem pms_asgR {i : Nat} {m : ME} {pos' : Pos} (hN : X.N.Nodup) (hi : X.N[i]? = some x) (hx : Loc X.env.scope x) (he : PM X w W e m) (hs : swapsWith e (some (.Name x pos')) pos.line X.env = pure false := by rfl) (hf : X.fn x = true ∨ X.env.scope.names.lookup x = some .local := by first | exact .inl rfl | exact .inr rfl | assumption) :
    PMS X w W (.Assign [.Name x pos'] e pos) (mAsgR i m) := by
  obtain ⟨te, pe, se⟩ := he
  refine ⟨_, ps_set hN hi hx pe hs hf, fun F O ρ σ H E hw R hh => ?_⟩
  refine se.bindS hw R hh fun x v ρ1 O1 H1 st1 R1 rv h1 => ?_
  show E.nx _ _
  split at h1
  · rename_i c ns ds
    split at h1
    · rename_i hi
      obtain ⟨a, m', e1, e2, e3, e4, e5, e6⟩ := rv
      have em : m' = .rcd c ns ds := by
        cases m' with
        | lst _ => cases (show D.rcd c ns ds = .lst _ from e4)
        | dct _ _ => cases (show D.rcd c ns ds = .dct _ _ from e4)
        | dkt _ _ => cases (show D.rcd c ns ds = .dkt _ _ from e4)
        | ins _ _ => exact e4.elim
        | rcd _ _ _ => cases (show D.rcd c ns ds = .rcd _ _ _ from e4); rfl
      subst em
      subst e1
      exact h1 O1 _ H1 (Step.refl _ _) (R1.setO e5 e3 (R.freshE e2) e6 hi)
    · exact h1.elim
  · exact h1.elim
end
end PM

/-! defs and methods below which tables grow and that may raise; methods that change their own record -/
namespace PM
open PySem PySem.Spec PyProof.Rows L2
theorem fldN_none {w : Wd} {O : Av} {H : Hp} {f : Str} : ∀ {ns : List Str} {ds : List D} {vs : List V}, RepL w O H ds vs → vs.length = ns.length → fldN f ns ds = none → (ns.zip vs).lookup f = none
  | [], _, _, _, _, _ => rfl
  | n :: ns, [], vs, r, l, _ => by
    simp only [RepL] at r
    subst r
    cases l
  | n :: ns, d :: ds, vs, r, l, h => by
    simp only [RepL] at r
    obtain ⟨u, vs', rfl, r1, r2⟩ := r
    unfold fldN at h
    by_cases q : n = f
    · rw [if_pos q] at h; cases h
    · rw [if_neg q] at h
      have z : (f == n) = false := beq_eq_false_iff_ne.mpr (Ne.symm q)
      have := fldN_none r2 (by simpa using l) h
      simp [List.lookup, z, this]
section
variable {w : Wd} {f : Fn} {k : Nat} {E : XK}
/-- one's own thing of the slot i is handed to a T-def -/
theorem coreT {F : Fr} {O : Av} {ρ : En} {σ : L2.St} {H : Hp} {Q : VK} {i : Nat} {s : Sl} {m : Mu} {a : Addr} {xs : List D} {vs : List V} (R1 : Rel F O ρ σ H) (e1 : ρ[i]? = some s) (g1 : s.get = some m) (ea : σ[i]? = some (some (.ref a))) (rs : RepL F.w O H xs vs) (hk : xs.length + 1 = k)
    (h1 : Hold F (WF E) O σ H (RV F σ H) Q (match f (some m) xs with
      | .ret x (some m') => .ok x (ρ.set i (s.put m'))
      | .exc xc (some m') => .exc xc (ρ.set i (s.put m'))
      | _ => .stuck)) : spT F.w k f (.ref a :: vs) H Q E := by
  obtain ⟨a', ea', oa', ma'⟩ := R1.muAt e1 g1
  rw [ea] at ea'
  cases ea'
  have tO := R1.tabO
  refine ⟨O, some m, xs, R1.dom, by simp [rs.length, hk], tO, ⟨a, vs, rfl, oa', ma', rs⟩, ?_⟩
  split at h1
  · rename_i z m' hz
    rw [hz]
    refine ⟨rfl, fun H' v sy rf => ?_⟩
    have hk : ∀ b o, b ≠ a → (∀ p ∈ F.w.T, p.1 ≠ b) → H b = some o → H' b = some o := fun b o n n2 e => sy.kept b o (fun q => n (by have := q.2; simp at this; exact this.symm)) n2 e
    obtain ⟨d, b⟩ := z
    cases b with
    | false =>
      obtain ⟨r1, a2, ha2, r2⟩ := rf
      cases (show some (V.ref a) = some (.ref a2) from ha2)
      obtain ⟨R2, st2⟩ := R1.mutT e1 g1 ea oa' ma' hk (fun _ q => .inl q) (fun _ q => q) sy.dom (fun b q => sy.dom b (R1.dom b q)) sy.tab r2
      exact h1 O H' v st2 R2 r1
    | true =>
      obtain ⟨c, m2, e2, e3, e4, e5, ⟨a2, ha2, r2⟩, tb⟩ := rf
      cases (show some (V.ref a) = some (.ref a2) from ha2)
      obtain ⟨R2, st2⟩ := R1.mutT e1 g1 ea oa' ma' hk (fun b q => q.elim .inl fun e => .inr (by rw [e]; exact e3)) (fun _ q => .inl q) sy.dom (fun b q => q.elim (fun q => sy.dom b (R1.dom b q)) fun z => by rw [z]; exact e5.some) tb r2
      exact h1 (ins O c) H' v st2 R2 ⟨c, m2, e2, e3, .inr rfl, e4, e5, (R1.apart e3).put e1 (mu_of_get g1)⟩
  · rename_i xc m' hz
    rw [hz]
    refine ⟨rfl, fun H' cls d sy rf xa => ?_⟩
    have hk : ∀ b o, b ≠ a → (∀ p ∈ F.w.T, p.1 ≠ b) → H b = some o → H' b = some o := fun b o n n2 e => sy.kept b o (fun q => n (by have := q.2; simp at this; exact this.symm)) n2 e
    obtain ⟨a2, ha2, r2⟩ := rf
    cases (show some (V.ref a) = some (.ref a2) from ha2)
    obtain ⟨R2, st2⟩ := R1.mutT e1 g1 ea oa' ma' hk (fun _ q => .inl q) (fun _ q => q) sy.dom (fun b q => sy.dom b (R1.dom b q)) sy.tab r2
    exact h1 O H' cls d st2 R2 xa
  · exact h1.elim
/-- x.m(..), x one's own record in the slot i -/
def mMethR (i c : Nat) (nm : Str) (f : Fn) (mr : MA) : ME := fun ρ => match muOf i ρ with
  | some (_, .rcd c' ns ds) => if c' = c ∧ fldN nm ns ds = none then ((mr ρ).bind fun xs ρ1 => match muOf i ρ1 with
    | some (s, m) => (match f (some m) xs with
      | .ret x (some m') => .ok x (ρ1.set i (s.put m'))
      | .exc xc (some m') => .exc xc (ρ1.set i (s.put m'))
      | _ => .stuck)
    | none => .stuck) else .stuck
  | _ => .stuck
theorem sim_methR {i c : Nat} {nm : Str} {t : TA} {mr : MA} (hr : SimA w (WF E) t mr) (hn : ∀ (ρ ρ1 : En) (xs : List D), mr ρ = .ok xs ρ1 → xs.length + 1 = k) : Sim w (WF E) (tMeth (w.cl c) nm (spT w k f) [] E (tVar i) t) (mMethR i c nm f mr) := fun F O ρ σ H Q hw R hh => by
  subst hw
  unfold mMethR at hh
  split at hh
  · rename_i s0 c' ns ds q0
    split at hh
    · rename_i hc
      obtain ⟨rfl, hf⟩ := hc
      obtain ⟨e0, g0⟩ := muOf_some q0
      obtain ⟨a, ea, oa, dx, us, m1, m2, m3⟩ := R.muAt e0 g0
      refine ⟨.ref a, ea, a, dx, _, rfl, m1, fldN_none m3 m2 hf, ?_⟩
      have key : Hold F (WF E) O σ H (RV F σ H) Q ((mr ρ).bind fun xs ρ1 => if xs.length + 1 = k then (match muOf i ρ1 with
        | some (s, m) => (match f (some m) xs with
          | .ret x (some m') => .ok x (ρ1.set i (s.put m'))
          | .exc xc (some m') => .exc xc (ρ1.set i (s.put m'))
          | _ => .stuck)
        | none => .stuck) else .stuck) := by
        cases q : mr ρ with
        | ok xs ρ1 =>
          rw [q] at hh
          show Hold F (WF E) O σ H (RV F σ H) Q (if xs.length + 1 = k then _ else _)
          rw [if_pos (hn ρ ρ1 xs q)]
          exact hh
        | exc x ρ1 => rw [q] at hh; exact hh
        | stuck => rw [q] at hh; exact hh
      refine hr.bind rfl R key fun xs vs ρ1 O1 H1 st1 R1 rs h1 => ?_
      split at h1
      · rename_i hk
        split at h1
        · rename_i s m q1
          obtain ⟨e1, g1⟩ := muOf_some q1
          rw [List.append_nil]
          exact coreT R1 e1 g1 ea rs hk (h1.laterV st1)
        · exact h1.elim
      · exact h1.elim
    · exact h1_elim hh
  · exact hh.elim
where h1_elim {F : Fr} {O : Av} {σ : L2.St} {H : Hp} {Q : VK} (hh : Hold F (WF E) O σ H (RV F σ H) Q (.stuck : Rs Vl)) {P : Prop} : P := hh.elim
/-- f(..), f a T-def that may raise -/
theorem sim_callTX {ta : TA} {ma : MA} (ha : SimA w (WF E) ta ma) (hn : ∀ (ρ ρ1 : En) (xs : List D), ma ρ = .ok xs ρ1 → xs.length = k) : Sim w (WF E) (tCall (spT w k f) [] E ta) (mCallX f ma) := fun F O ρ σ H Q hw R hh => by
  subst hw
  have key : Hold F (WF E) O σ H (RV F σ H) Q ((ma ρ).bind fun xs ρ1 => if xs.length = k then (match f none xs with
    | .ret x none => .ok x ρ1
    | .exc xc none => .exc xc ρ1
    | _ => .stuck) else .stuck) := by
    unfold mCallX at hh
    cases q : ma ρ with
    | ok xs ρ1 =>
      rw [q] at hh
      show Hold F (WF E) O σ H (RV F σ H) Q (if xs.length = k then _ else _)
      rw [if_pos (hn ρ ρ1 xs q)]
      exact hh
    | exc x ρ1 => rw [q] at hh; exact hh
    | stuck => rw [q] at hh; exact hh
  refine ha.bind rfl R key fun xs vs ρ1 O1 H1 st1 R1 rs h1 => ?_
  split at h1
  · rename_i hk
    show spT _ _ _ (vs ++ []) H1 Q E
    rw [List.append_nil]
    have tO := R1.tabO
    refine ⟨O1, none, xs, R1.dom, by rw [rs.length]; exact hk, tO, rs, ?_⟩
    have kpt : ∀ {H' : Hp}, StayT F.w.T O1 none vs H1 H' → ∀ b o, (∀ p ∈ F.w.T, p.1 ≠ b) → H1 b = some o → H' b = some o := fun sy b o n e => sy.kept b o (fun q => by cases q.1) n e
    have kp : ∀ {H' : Hp}, StayT F.w.T O1 none vs H1 H' → ∀ b o, ¬ O1 b → H1 b = some o → H' b = some o := fun sy b o n e => kpt sy b o (fun p hp z => n (z ▸ (tO p hp).1)) e
    split at h1
    · rename_i z hz
      rw [hz]
      refine ⟨rfl, fun H' v sy rf => ?_⟩
      obtain ⟨d, b⟩ := z
      cases b with
      | false =>
        have st2 : Step O1 H1 O1 H' := ⟨fun _ q => .inl q, kp sy, sy.dom⟩
        exact h1 O1 H' v (st1.trans st2) (R1.stepT st2 (fun _ q => q) (fun b q => sy.dom b (R1.dom b q)) (kpt sy) sy.tab) rf.1
      | true =>
        obtain ⟨a, m, e1, e2, e3, e4, _, e6⟩ := rf
        have st2 : Step O1 H1 (ins O1 a) H' := ⟨fun b q => q.elim .inl fun e => .inr (by rw [e]; exact e2), kp sy, sy.dom⟩
        exact h1 (ins O1 a) H' v (st1.trans st2) (R1.stepT st2 (fun _ q => .inl q) (fun b q => q.elim (fun q => sy.dom b (R1.dom b q)) fun z => by rw [z]; exact e4.some) (kpt sy) e6) ⟨a, m, e1, st1.none_back e2, .inr rfl, e3, e4, R1.apart e2⟩
    · rename_i xc hz
      rw [hz]
      refine ⟨rfl, fun H' cls d sy _ xa => ?_⟩
      have st2 : Step O1 H1 O1 H' := ⟨fun _ q => .inl q, kp sy, sy.dom⟩
      exact h1 O1 H' cls d (st1.trans st2) (R1.stepT st2 (fun _ q => q) (fun b q => sy.dom b (R1.dom b q)) (kpt sy) sy.tab) xa
    · exact h1.elim
  · exact h1.elim
end
section
variable {P : Program} {wo : World} {K : PySem.W.Frag} {mg : Str → Option Value} {base : Heap} {w : Wd}
/-- a def that stands in the written part, its code object known -/
theorem fn_ofK {Z : CXT} {k : Nat} {f : Addr} {ps N : List Str} {sp : Sp} {nm qual : Str} {pr : Arguments} {body : List Stmt} {sco : Scope} {dV kV doc pm cdv ct oc : Value} {an od : Option Addr} {osl : Array (Option Value)}
    (lk : K.lookup f = some ⟨oc, od, .func (PySem.W.fnOf nm qual pr body sco dV kV doc pm an cdv ct), osl⟩) (hcd : PySem.W.codeIn K cdv qual = true) (S : FnScope N ps sco) (len : ∀ vs H Q E, sp vs H Q E → vs.length = ps.length)
    (hbody : ∀ (A : Around) (out : List Env) (s : Shared) (H : Hp) (vs : List V) (Q : VK) (E : XK), Room k (A.deeper (envOfC qual sco s.heap.objs.size f cdv)) → sp vs H Q E →
      ∃ t, PSs (cxOf Z P wo K mg base N qual sco f cdv A out s H E) body t ∧ t { nx := fun _ H' => Q .non H', rt := Q } (L2.start N vs) H) :
    FnOk P wo K mg base Z (k + 1) f (PySem.W.fnOf nm qual pr body sco dV kV doc pm an cdv ct) ps sp := by
  refine ⟨len, fun A out s H args us vs Q E hr en hbi rr hsp => ?_⟩
  exact LamX.run_ofS lk hcd S hr en hbi rr (len _ _ _ _ hsp) fun hr' => hbody A out s H vs Q E hr' hsp
theorem fn_okTX {x qual : Str} {st : Stmt} {f c : Addr} {fd : FuncData} {N ps : List Str} {k : Nat} {m : MS} (hc : codeOf K f = some c) (F : Fun K x qual st f fd) (S : FnScope N ps (defScope st)) (hl : ps.length ≤ N.length)
    (hb : ∀ (A : Around) (outer : List Env) (s : Shared) (H : Hp) (E : XK), Room k (A.deeper (envOfC qual (defScope st) s.heap.objs.size f (.ref c))) → Takes (cxOf (L2.CX P wo) P wo K mg base N qual (defScope st) f (.ref c) A outer s H E) (WF E) →
      PassesOwn (model P wo) (cxOf (L2.CX P wo) P wo K mg base N qual (defScope st) f (.ref c) A outer s H E).A (cxOf (L2.CX P wo) P wo K mg base N qual (defScope st) f (.ref c) A outer s H E).env (cxOf (L2.CX P wo) P wo K mg base N qual (defScope st) f (.ref c) A outer s H E).xe →
      PMSs (cxOf (L2.CX P wo) P wo K mg base N qual (defScope st) f (.ref c) A outer s H E) w (WF E) (defBody st) m) : FnOk P wo K mg base (L2.CX P wo) (k + 1) f fd ps (spT w ps.length (fnSem N.length ps.length m)) := by
  have len : ∀ vs H Q E, spT w ps.length (fnSem N.length ps.length m) vs H Q E → vs.length = ps.length := fun vs H Q E h => by
    obtain ⟨O, om, ds, _, hl, _⟩ := h
    exact hl
  obtain ⟨oc, od, kV, doc, pm, an, cdv, ct, osl, rfl, lk, hcd⟩ := F.ex
  have ec : cdv = .ref c := by
    unfold codeOf at hc
    rw [lk] at hc
    exact codeV_ref hc
  subst ec
  refine fn_ofK lk hcd S len fun A outer s H vs Q E hr h => ?_
  obtain ⟨t, p, sm⟩ := hb A outer s H E hr (takes_of rfl rfl rfl rfl) (passes_of rfl)
  exact ⟨t, p, body_okT sm (fun _ _ _ _ z => z) hl h⟩
/-- .. that makes no lambda itself -/
theorem fn_okTX0 {x qual : Str} {st : Stmt} {f : Addr} {fd : FuncData} {N ps : List Str} {k : Nat} {m : MS} (F : Fun K x qual st f fd) (S : FnScope N ps (defScope st)) (hl : ps.length ≤ N.length)
    (hb : ∀ (cdv : Value) (A : Around) (outer : List Env) (s : Shared) (H : Hp) (E : XK), Room k (A.deeper (envOfC qual (defScope st) s.heap.objs.size f cdv)) → Takes (cxOf (L2.CX P wo) P wo K mg base N qual (defScope st) f cdv A outer s H E) (WF E) →
      PassesOwn (model P wo) (cxOf (L2.CX P wo) P wo K mg base N qual (defScope st) f cdv A outer s H E).A (cxOf (L2.CX P wo) P wo K mg base N qual (defScope st) f cdv A outer s H E).env (cxOf (L2.CX P wo) P wo K mg base N qual (defScope st) f cdv A outer s H E).xe →
      PMSs (cxOf (L2.CX P wo) P wo K mg base N qual (defScope st) f cdv A outer s H E) w (WF E) (defBody st) m) : FnOk P wo K mg base (L2.CX P wo) (k + 1) f fd ps (spT w ps.length (fnSem N.length ps.length m)) := by
  have len : ∀ vs H Q E, spT w ps.length (fnSem N.length ps.length m) vs H Q E → vs.length = ps.length := fun vs H Q E h => by
    obtain ⟨O, om, ds, _, hl, _⟩ := h
    exact hl
  refine F.okX S len fun cdv A outer s H vs Q E hr h => ?_
  obtain ⟨t, p, sm⟩ := hb cdv A outer s H E hr (takes_of rfl rfl rfl rfl) (passes_of rfl)
  exact ⟨t, p, body_okT sm (fun _ _ _ _ z => z) hl h⟩
def DefTX (P : Program) (wo : World) (K : PySem.W.Frag) (mg : Str → Option Value) (base : Heap) (w : Wd) (x : Str) (n j : Nat) (f : Fn) : Prop :=
  ∃ a fd ps, ps.length = n ∧ FnOk P wo K mg base (L2.CX P wo) j a fd ps (spT w n f) ∧ mg x = some (.ref a) ∧ PySem.W.keepIn K (.ref a) = true ∧ Binds K fd ps []
/-- a method of the class c, below which tables may grow, and that may raise and change its record; n: with self -/
structure MthTX (P : Program) (wo : World) (K : PySem.W.Frag) (mg : Str → Option Value) (base : Heap) (w : Wd) (c : Nat) (nm : Str) (n j : Nat) (f : Fn) : Prop where
  ex : ∃ g fd ps, Meth K (w.cl c) nm g ∧ FnOk P wo K mg base (L2.CX P wo) j g fd ps (spT w n f) ∧ Binds K fd ps []
end
section
variable {w : Wd} {X : Cx} {pos p apos : Pos} {x nm : Str} {e : Expr} {es : List Expr} {ma : MA} {f : Fn} {n j c : Nat} {E : XK}
theorem pm_callTX (tk : Takes X (WF E)) (F : DefTX X.prog X.w X.K X.mg X.base w x n j f) (hr : Room j X.A) (hg : Gl X x) (ha : PMA X w (WF E) (e :: es) ma) (hn : Len ma n) (hd : (x == ("__debug__" : Str)) = false := by decide) (he : starEach (e :: es) X.env = (false, eval e X.env) :: starEach es X.env := by rfl) (hpl : (backTo pos (starEach es X.env)).any (·.1) = false := by rfl) :
    PM X w (WF E) (.Call (.Name x p) (e :: es) [] pos) (mCallX f ma) := by
  obtain ⟨a, fd, ps, hl, F, hm, hk, hb⟩ := F
  obtain ⟨ta, pa, sa⟩ := ha
  exact ⟨_, pe_call F hr hg hm hk hb .nil (passes_call tk fun _ _ _ _ z => z) pa hd he hpl, sim_callTX sa hn⟩
/-- x.m(e, ..) -/
theorem pm_methR (i : Nat) (tk : Takes X (WF E)) (hK : w.K = X.K) (hc : RcOk w c) (F : MthTX X.prog X.w X.K X.mg X.base w c nm (n + 1) j f) (hr : Room j X.A) (ha : PMA X w (WF E) (e :: es) ma) (hn : Len ma n) (hN : X.N[i]? = some x := by rfl) (hv : Vis X.env.scope x := by first | exact Or.inl rfl | exact Or.inr (Or.inl rfl) | exact Or.inr (Or.inr rfl))
    (hd : (x == ("__debug__" : Str)) = false := by decide) (hcd : (x == ("__classdict__" : Str)) = false := by decide) (hst : starEach (e :: es) X.env = (false, eval e X.env) :: starEach es X.env := by rfl) (hpl : (backTo pos (starEach es X.env)).any (·.1) = false := by rfl) {pl : Sem Bool}
    (ht : eval (.Call (.Attribute (.Name x p) nm apos) (e :: es) [] pos) X.env = (do
      let ov ← eval (.Name x p) X.env
      standAt apos.atName
      let (f, first) ← holding [ov] (getMethod ov nm pl)
      callWith pos f first (backTo pos (starEach (e :: es) X.env)) (backToKw pos (keywordEach [] X.env))) := by rfl) :
    PM X w (WF E) (.Call (.Attribute (.Name x p) nm apos) (e :: es) [] pos) (mMethR i c nm f ma) := by
  obtain ⟨g, fd, ps, hm, F, hb⟩ := F.ex
  obtain ⟨ta, pa, sa⟩ := ha
  have hcl : Cls X.K (w.cl c) := hK ▸ hc.cl
  exact ⟨_, pe_meth (pl := pl) (pe_var hN hv hd hcd) hcl hm F hr hb .nil (passes_call tk fun _ _ _ _ z => z) pa hst hpl ht, sim_methR sa fun ρ ρ1 xs q => by rw [hn ρ ρ1 xs q]⟩
/-- x.m() -/
def mNone : MA := fun ρ => .ok [] ρ
theorem pm_methR0 (i : Nat) (tk : Takes X (WF E)) (hK : w.K = X.K) (hc : RcOk w c) (F : MthTX X.prog X.w X.K X.mg X.base w c nm 1 j f) (hr : Room j X.A) (hN : X.N[i]? = some x := by rfl) (hv : Vis X.env.scope x := by first | exact Or.inl rfl | exact Or.inr (Or.inl rfl) | exact Or.inr (Or.inr rfl))
    (hd : (x == ("__debug__" : Str)) = false := by decide) (hcd : (x == ("__classdict__" : Str)) = false := by decide) {pl : Sem Bool}
    (ht : eval (.Call (.Attribute (.Name x p) nm apos) [] [] pos) X.env = (do
      let ov ← eval (.Name x p) X.env
      standAt apos.atName
      let (f, first) ← holding [ov] (getMethod ov nm pl)
      callWith pos f first (backTo pos (starEach [] X.env)) (backToKw pos (keywordEach [] X.env))) := by rfl) :
    PM X w (WF E) (.Call (.Attribute (.Name x p) nm apos) [] [] pos) (mMethR i c nm f mNone) := by
  obtain ⟨g, fd, ps, hm, F, hb⟩ := F.ex
  have hcl : Cls X.K (w.cl c) := hK ▸ hc.cl
  have s0 : SimA w (WF E) tNil mNone := fun F O ρ σ H Q hw R hh => hh O H [] (Step.refl _ _) R (by show RepL _ _ _ [] []; simp only [RepL])
  exact ⟨_, pe_meth0 (pl := pl) (pe_var hN hv hd hcd) hcl hm F hr hb .nil (passes_call tk fun _ _ _ _ z => z) ht, sim_methR s0 fun ρ ρ1 xs q => by cases q; rfl⟩
end
end PM

/-! functions as values: lambdas without captured names, defs of the module; their calls -/
namespace PM
open PySem PySem.Spec PyProof.Rows L2 LamX
theorem clo_nil {cells : List (Str × Addr)} : ∀ {names : List (Str × NameKind)} {acc : List (Str × Addr)}, (∀ y ∈ names, y.2 ≠ .free) → cloFrom cells names acc = acc
  | [], _, _ => rfl
  | (n, k) :: r, acc, h => by
    unfold cloFrom
    have hk : (k == NameKind.free) = false := by
      have := h (n, k) (List.mem_cons_self ..)
      cases k <;> first | rfl | exact absurd rfl this
    rw [hk]
    exact clo_nil fun y hy => h y (List.mem_cons_of_mem _ hy)
section
variable {X : Cx} {pins : List (Addr × Obj)} {σ : L2.St} {H : Hp} {s : Shared}
/-- a lambda that catches no name is made, and known from then on -/
theorem lam_newV {cc P : Addr} {ps : Array Value} {prm : Arguments} {ex : Expr} {sc : Scope} {at_ : Pos} {q : Str} {Er Q : Value → Shared → Prop} (J : Inv X pins σ H s) (B : TabB X.base X.mg cc P) (code : X.env.code = .ref cc) (eq_ : X.env.qual ++ ("<lambda>" : Str) = q)
    (tb : H P = some (.tbl ps)) (tw : TabW H q ps) (nd : defaultsOf prm X.env = ([], [])) (fr : ∀ y ∈ sc.names, y.2 ≠ .free)
    (go : ∀ (fa cn : Addr) (H1 : Hp) (s1 : Shared) (ps1 : Array Value), Inv X pins σ H1 s1 → (∀ b o, b ≠ P → H b = some o → H1 b = some o) → H1 P = some (.tbl ps1) → TriplesOk ps1.toList →
      (∀ (pos : Pos) (cv : Value), codeAmong pos ps1.toList = some cv → ∃ c, cv = .ref c ∧ H1 c = some (CodeO c q) ∧ (codeAmong pos ps.toList = some cv ∨ H c = none)) →
      H fa = none → H1 fa = some (LamO (q, prm, ex, sc) fa cn) → H1 cn = some (CodeO cn q) → (codeAmong at_ ps.toList = some (.ref cn) ∨ H cn = none) → Q (.ref fa) s1) :
    wpAny (model X.prog X.w) X.A (eval (.Lambda prm ex sc at_) X.env) Q Er s := by
  obtain ⟨tri, known⟩ := tw
  have blt := B.bm.keeps J.bk
  have seen : s.heap.get? P = some { cls := .none, data := .fields ps } := J.hok P _ tb
  have glb := J.mod.glob.keeps J.bk
  have cde := B.code.keeps J.bk
  have cl0 : cloFrom X.env.cells sc.names [] = [] := clo_nil fr
  have frok : ∀ y ∈ sc.names, y.2 = .free → ∃ k, X.env.cells.lookup y.1 = some k := fun y hy e => absurd e (fr y hy)
  refine PySem.W.kla_eval nd ?_
  rw [eq_]
  cases fnd : codeAmong at_ ps.toList with
  | some cv =>
    obtain ⟨cn, rfl, hcn⟩ := known at_ cv fnd
    refine PySem.W.kla_makeFunctionHit (mg := X.mg) (c := cc) (P := P) (ps := ps) (closure_ok frok) J.ok.glob glb code cde seen tri fnd blt fun ctv h1 tk old sz => ?_
    rw [cl0]
    have nf : H h1.objs.size = none := J.hok.fresh sz
    have e1 : (h1.push (PySem.W.kla_obj "<lambda>" q prm ex sc [] ((X.mg "__name__").getD .none) cn ctv)).get? h1.objs.size = some (PySem.W.kla_obj "<lambda>" q prm ex sc [] ((X.mg "__name__").getD .none) cn ctv) := Heap.get?_push_size _ rfl
    have J1 := J.laid (t' := tk) (h' := h1.push (PySem.W.kla_obj "<lambda>" q prm ex sc [] ((X.mg "__name__").getD .none) cn ctv)) (a := h1.objs.size) (o := LamO (q, prm, ex, sc) h1.objs.size cn) (fun b o e => Heap.get?_push_of_some _ (old b o e)) sz
      ⟨⟨_, ctv, e1⟩, ⟨_, e1⟩, fun h1 h2 ⟨pm, ctv, z⟩ st => ⟨pm, ctv, st _ z⟩⟩
    have k : ∀ b o, H b = some o → upd H h1.objs.size (LamO (q, prm, ex, sc) h1.objs.size cn) b = some o := fun b o e => by rw [upd_ne (ne_of_none e nf)]; exact e
    exact go h1.objs.size cn _ _ ps J1 (fun b o _ e => k b o e) (k _ _ tb) tri (fun pos cv e => (known pos cv e).imp fun c z => ⟨z.1, k _ _ z.2, .inl e⟩) nf upd_same (k _ _ hcn) (.inl fnd)
  | none =>
    refine PySem.W.kla_makeFunction (mg := X.mg) (c := cc) (P := P) (ps := ps) (closure_ok frok) J.ok.glob glb code cde seen tri fnd B.gP blt fun cn ctv h1 tk but lo hi rec_ tab1 => ?_
    rw [cl0]
    obtain ⟨c2, oc, vs, t, ec, g1, g2, g3⟩ := rec_
    cases ec
    have sz : s.heap.objs.size ≤ h1.objs.size := Nat.le_of_lt (Nat.lt_of_le_of_lt lo hi)
    have nw : H cn = none := J.hok.fresh lo
    have pc : P ≠ cn := ne_of_none tb nw
    generalize hmore : (#[rawInt at_.line, rawInt at_.col, .ref cn] : Array Value) = more at tab1
    have tl : (ps ++ more).toList = ps.toList ++ [rawInt at_.line, rawInt at_.col, .ref cn] := by rw [← hmore]; simp
    have J1 := inv_table (q := q) (t' := tk) (more := more) (h' := h1) J tb but tab1 lo ⟨oc, vs, t, g1, g2, g3⟩
    have nfa : H h1.objs.size = none := J.hok.fresh sz
    have e1 : (h1.push (PySem.W.kla_obj "<lambda>" q prm ex sc [] ((X.mg "__name__").getD .none) cn ctv)).get? h1.objs.size = some (PySem.W.kla_obj "<lambda>" q prm ex sc [] ((X.mg "__name__").getD .none) cn ctv) := Heap.get?_push_size _ rfl
    have J2 := J1.laid (t' := tk) (h' := h1.push (PySem.W.kla_obj "<lambda>" q prm ex sc [] ((X.mg "__name__").getD .none) cn ctv)) (a := h1.objs.size) (o := LamO (q, prm, ex, sc) h1.objs.size cn) (fun b o e => Heap.get?_push_of_some _ e) (Nat.le_refl _)
      ⟨⟨_, ctv, e1⟩, ⟨_, e1⟩, fun h1 h2 ⟨pm, ctv, z⟩ st => ⟨pm, ctv, st _ z⟩⟩
    have nc : h1.objs.size ≠ cn := Nat.ne_of_gt hi
    have nP : h1.objs.size ≠ P := Nat.ne_of_gt (Nat.lt_of_lt_of_le (Heap.lt_size seen) sz)
    have self : upd (upd (upd H P (.tbl (ps ++ more))) cn (CodeO cn q)) h1.objs.size (LamO (q, prm, ex, sc) h1.objs.size cn) cn = some (CodeO cn q) := by rw [upd_ne (Ne.symm nc), upd_same]
    have rest : ∀ b o, b ≠ P → H b = some o → upd (upd (upd H P (.tbl (ps ++ more))) cn (CodeO cn q)) h1.objs.size (LamO (q, prm, ex, sc) h1.objs.size cn) b = some o := fun b o nb e => by
      rw [upd_ne (ne_of_none e nfa), upd_ne (ne_of_none e nw), upd_ne nb]
      exact e
    have atP : upd (upd (upd H P (.tbl (ps ++ more))) cn (CodeO cn q)) h1.objs.size (LamO (q, prm, ex, sc) h1.objs.size cn) P = some (.tbl (ps ++ more)) := by rw [upd_ne (Ne.symm nP), upd_ne pc, upd_same]
    refine go h1.objs.size cn _ _ (ps ++ more) J2 rest atP (by rw [tl]; exact PySem.TriplesOk_snoc _ _ _ _ tri) (fun pos cv e => ?_) nfa upd_same self (.inr nw)
    rw [tl] at e
    rcases among_app _ tri e with z | z
    · obtain ⟨c, rfl, hc⟩ := known pos cv z
      exact ⟨c, rfl, rest c _ (fun y => by rw [y, tb] at hc; exact codeO_ne _ (Option.some.inj hc).symm) hc, .inl z⟩
    · exact ⟨cn, z, self, .inr nw⟩
end
/-- the making of a lambda, as a reading -/
def tLamV (P : Addr) (q : Str) (l : Str × Arguments × Expr × Scope) (at_ : Pos) : TE := fun _ H Q => ∃ ps, H P = some (.tbl ps) ∧ TabW H q ps ∧
  ∀ (fa cn : Addr) (H1 : Hp) (ps1 : Array Value), (∀ b o, b ≠ P → H b = some o → H1 b = some o) → H1 P = some (.tbl ps1) → TriplesOk ps1.toList →
    (∀ (pos : Pos) (cv : Value), codeAmong pos ps1.toList = some cv → ∃ c, cv = .ref c ∧ H1 c = some (CodeO c q) ∧ (codeAmong pos ps.toList = some cv ∨ H c = none)) →
    H fa = none → H1 fa = some (LamO l fa cn) → H1 cn = some (CodeO cn q) → (codeAmong at_ ps.toList = some (.ref cn) ∨ H cn = none) → Q (.ref fa) H1
section
variable {w : Wd} {W : WX} {X : Cx} {prm : Arguments} {ex : Expr} {sc : Scope} {pos : Pos} {q : Str} {cc P : Addr} {k : Nat}
theorem pe_lamV (B : TabB X.base X.mg cc P) (code : X.env.code = .ref cc) (eq_ : X.env.qual ++ ("<lambda>" : Str) = q) (nd : defaultsOf prm X.env = ([], [])) (fr : ∀ y ∈ sc.names, y.2 ≠ .free) : PE X (.Lambda prm ex sc pos) (tLamV P q (q, prm, ex, sc) pos) := by
  refine ⟨fun pins s σ H Q I ⟨ps, hP, tw, hq⟩ => ?_⟩
  exact lam_newV I B code eq_ hP tw nd fr fun fa cn H1 s1 ps1 I1 k1 k2 k3 k4 k5 k6 k7 k8 => ⟨.ref fa, H1, I1, rfl, hq fa cn H1 ps1 k1 k2 k3 k4 k5 k6 k7 k8⟩
theorem sim_lamV (hT : (P, q) ∈ w.T) (hu : ∀ p ∈ w.T, p.1 = P → p.2 = q) (hl : w.lo k = (q, prm, ex, sc)) : Sim w W (tLamV P q (q, prm, ex, sc) pos) (mC (.lam k)) := fun F O ρ σ H Q hw R hh => by
  subst hw
  obtain ⟨ps, t1, t2, t3⟩ := (R.tab _ hT).2
  have tO := R.tabO
  refine ⟨ps, t1, ⟨t2, fun pos cv e => (t3 pos cv e).imp fun c z => ⟨z.1, z.2.2⟩⟩, fun fa cn H1 ps1 k1 k2 k3 k4 k5 k6 k7 k8 => ?_⟩
  have dm : ∀ b, H b ≠ none → H1 b ≠ none := fun b z => by
    cases e : H b with
    | none => exact absurd e z
    | some o =>
      by_cases hb : b = P
      · rw [hb, k2]; simp
      · rw [k1 b o hb e]; simp
  have st : Step O H O H1 := ⟨fun _ z => .inl z, fun b o n e => k1 b o (fun z => n (z ▸ (tO _ hT).1)) e, dm⟩
  have R1 : Rel F O ρ σ H1 := by
    refine R.stepT st (fun _ z => z) (fun b z => dm b (R.dom b z)) (fun b o n e => k1 b o (fun z => n _ hT z.symm) e) fun p hp => ?_
    by_cases hb : p.1 = P
    · rw [hu p hp hb, hb]
      refine ⟨ps1, k2, k3, fun pos cv e => ?_⟩
      obtain ⟨c0, e1, e2, e3⟩ := k4 pos cv e
      refine ⟨c0, e1, ?_, e2⟩
      rcases e3 with e3 | e3
      · obtain ⟨c9, z1, z2, _⟩ := t3 pos cv e3
        rw [e1] at z1
        cases z1
        exact z2
      · exact R.fresh e3
    · have tz := (R.tab p hp).2
      obtain ⟨qs, y⟩ := tz.some
      exact tz.step st (by rw [y]; exact k1 _ _ hb y)
  refine hh O H1 (.ref fa) st R1 ?_
  show Rep F.w O H1 (.lam k) (.ref fa)
  simp only [Rep, hl]
  refine ⟨fa, cn, rfl, ⟨R.fresh k5, k6⟩, ⟨?_, k7⟩⟩
  rcases k8 with e3 | e3
  · obtain ⟨c9, z1, z2, _⟩ := t3 pos _ e3
    cases z1
    exact z2
  · exact R.fresh e3
theorem pm_lamV (k : Nat) (B : TabB X.base X.mg cc P) (code : X.env.code = .ref cc) (eq_ : X.env.qual ++ ("<lambda>" : Str) = q) (nd : defaultsOf prm X.env = ([], [])) (fr : ∀ y ∈ sc.names, y.2 ≠ .free) (hT : (P, q) ∈ w.T) (hu : ∀ p ∈ w.T, p.1 = P → p.2 = q) (hl : w.lo k = (q, prm, ex, sc)) :
    PM X w W (.Lambda prm ex sc pos) (mC (.lam k)) := ⟨_, pe_lamV B code eq_ nd fr, sim_lamV hT hu hl⟩
end
/-! ### calls -/
section
variable {P : Program} {wo : World} {K : PySem.W.Frag} {mg : Str → Option Value} {base : Heap} {w : Wd}
/-- what a function value is worth: f(x, ..) of n values, told of any caller -/
structure FvOk (P : Program) (wo : World) (K : PySem.W.Frag) (mg : Str → Option Value) (base : Heap) (w : Wd) (d : D) (n j : Nat) (f : Fn) : Prop where
  run : ∀ (O : Av) (v : V), ∃ g : Addr, ∀ (A : Around) (outer : List Env) (s : Shared) (H : Hp) (us : List Value) (vs : List V) (Q : VK), Room j A → Env0 P wo K mg base A outer s H → Rep w O H d v → v = .ref g ∧ PySem.W.FnAt g s.heap ∧ (Vals vs us → spOf w n f vs H Q E0 → codeAny (model P wo) A (.call (.ref g) ⟨us, []⟩) (CR CX0 outer P wo H s Q E0) s)
theorem fv_lam (hT : w.T = []) {N ps : List Str} {k j : Nat} {m : ME} {q : Str} {prm : Arguments} {ex : Expr} {sc : Scope} (hlo : w.lo k = (q, prm, ex, sc)) (S : FnScope N ps sc) (hl : ps.length ≤ N.length)
    (bd : ∀ (pm cd ctv : Value) (us : List Value), us.length = ps.length → bindArgs (PySem.W.kla_fn "<lambda>" q prm ex sc [] pm cd ctv) ⟨us, []⟩ = pure (ps.zip us))
    (hb : ∀ (cdv : Value) (A : Around) (outer : List Env) (s : Shared) (H : Hp) (E : XK) (f : Addr), Room j (A.deeper (envOfC q sc s.heap.objs.size f cdv)) → PM (cxOf CX0 P wo K mg base N q sc f cdv A outer s H E).nox w W0 ex m) :
    FvOk P wo K mg base w (.lam k) ps.length (j + 1) (noX (fnSem N.length ps.length (mRet m))) := by
  refine ⟨fun O v => ⟨(match v with | .ref g => g | _ => 0), fun A outer s H us vs Q hr e0 r => ?_⟩⟩
  simp only [Rep, hlo] at r
  obtain ⟨f, cd, rfl, ⟨_, h1⟩, ⟨_, h2⟩⟩ := r
  obtain ⟨⟨pm, ctv, of1⟩, _, _⟩ := e0.hok f _ h1
  obtain ⟨⟨oc, cvs, t, hoc, hdc, hvc⟩, _, _⟩ := e0.hok cd _ h2
  refine ⟨rfl, ⟨_, _, _, _, of1⟩, fun rv hs => ?_⟩
  have ln : vs.length = ps.length := by obtain ⟨_, _, _, _, hl, _⟩ := hs; exact hl
  have lu : us.length = ps.length := rv.length.symm.trans ln
  have nol : s.heap.NoLimit := e0.mod.nolimit.keeps fun b o e => (e0.bs b o e).1
  refine PySem.W.kla_callFunE hr.depth of1 rfl S.co S.gen rfl ⟨cd, oc, cvs, t, rfl, hoc, hdc, hvc⟩ ?_
  show wpAny _ _ (bindArgs (PySem.W.kla_fn "<lambda>" q prm ex sc [] pm (.ref cd) ctv) ⟨us, []⟩) _ _ _
  rw [bd pm _ ctv us lu]
  refine wpAny_pure (wpAny_newFunctionEnv_cells S.kind (fun ⟨n, v⟩ hy => ?_) fun env he s1 x => ?_)
  · rcases S.par n (List.of_mem_zip hy).1 with q | q
    · exact Or.inl q
    · exact Or.inr ⟨q, PySem.W.cellsFrom_some _ _ _ (Or.inl q)⟩
  · cases he
    refine ⟨nol.keeps x.toInCall.keep, ?_⟩
    obtain ⟨te, pe, se⟩ := hb (.ref cd) A outer s H E0 f (hr.deeper _)
    have J0 := inv_start (CX := CX0) (cd := .ref cd) (E := E0) S hr.hd e0 ln rv x
    have sm : SimS w W0 (tRet te) (mRet m) := fun F O ρ σ H E hw R hh => se.bindS hw R hh fun x v ρ1 O1 H1 st1 R1 rv h1 => h1 O1 σ H1 v (Step.refl _ _) R1 (VlAt.ret R rv)
    have wish := body_ok hT (E := fun _ _ _ => False) sm (fun _ _ _ _ z => z) hl (noX_hold (E' := fun _ _ _ => False) hs)
    refine PySem.W.kla_codeExpr (wpAny_mono (pe.nox.run [] s1 (L2.start N vs) H Q J0 wish) (fun v s' hq => ?_) fun e s' hq => hq)
    obtain ⟨w', H', J', rv, q⟩ := hq
    exact ⟨w', H', J'.os, J'.bare, J'.base, J'.hok, rv, q⟩
end
/-- x(e, ..), x a slot that holds a function value; fv: what it is worth -/
def mCallFv (i : Nat) (fv : D → Option Fn) (mr : MA) : ME := fun ρ => match ρ[i]? with
  | some (.val d) => (match fv d with
    | some f => (mr ρ).bind fun xs ρ1 => lift (fnN f xs) ρ1
    | none => .stuck)
  | _ => .stuck
section
variable {w : Wd} {W : WX} {X : Cx} {pos p : Pos} {x : Str} {e : Expr} {es : List Expr} {mr : MA} {n j i : Nat} {fv : D → Option Fn}
def tCallFv (w : Wd) (i n : Nat) (fv : D → Option Fn) (t : TA) : TE := fun σ H Q => ∃ (O : Av) (d : D) (f : Fn) (v : V), fv d = some f ∧ σ[i]? = some (some v) ∧ Rep w O H d v ∧ t σ H fun vs H1 => (∃ O1 : Av, Rep w O1 H1 d v) ∧ spOf w n f vs H1 Q E0
theorem pe_callFv (A : ∀ d f, fv d = some f → FvOk X.prog X.w X.K X.mg X.base w d n j f) (hr : Room j X.A) (hN : X.N[i]? = some x) (hv : Vis X.env.scope x) {t : TA} (ha : PA X (e :: es) t) (hdb : (x == ("__debug__" : Str)) = false := by decide) (hcd : (x == ("__classdict__" : Str)) = false := by decide)
    (he : starEach (e :: es) X.env = (false, eval e X.env) :: starEach es X.env := by rfl) (hpl : (backTo pos (starEach es X.env)).any (·.1) = false := by rfl) : PE X (.Call (.Name x p) (e :: es) [] pos) (tCallFv w i n fv t) := by
  refine ⟨fun pins s σ H Q I h => ?_⟩
  obtain ⟨O, d, f, v, hf, hs, rd, ht⟩ := h
  refine wpAny_Call_Name_kw (thn ((pe_var (pos := p) hN hv hdb hcd).run pins s σ H (fun u H1 => u = v ∧ H1 = H) I ⟨v, hs, rfl, rfl⟩) fun u s1 ⟨v1, H1, I1, r1, q1⟩ => ?_)
  obtain ⟨rfl, rfl⟩ := q1
  have FV := A d f hf
  obtain ⟨g, hg⟩ := FV.run O v1
  obtain ⟨ev, fa, _⟩ := hg X.A X.stack s1 H1 [] [] Q hr I1.env0 rd
  subst ev
  obtain rfl : u = Value.ref g := r1
  refine PySem.W.callWith_F fa (thn (ha.run pos pins s1 σ H1 _ I1 ht) fun us s2 ⟨vs, H2, I2, r, q2⟩ => ?_) he hpl
  obtain ⟨⟨O1, rd2⟩, sp⟩ := q2
  obtain ⟨g2, hg2⟩ := FV.run O1 (.ref g)
  obtain ⟨ev2, fa2, go⟩ := hg2 X.A X.stack s2 H2 us vs Q hr I2.env0 rd2
  cases ev2
  refine ⟨fa2, wpAny_call (codeAny_mono (go r sp) fun res s' hq => ?_)⟩
  rcases res with e | fl
  · exact (show False from hq).elim
  · cases fl with
    | ret u => exact I2.after hq
    | next => exact hq.elim
    | brk => exact hq.elim
    | cont => exact hq.elim
theorem pm_callFv (i : Nat) (A : ∀ d f, fv d = some f → FvOk X.prog X.w X.K X.mg X.base w d n j f) (hr : Room j X.A) (ha : PMA X w W (e :: es) mr) (hn : Len mr n) (hN : X.N[i]? = some x := by rfl) (hv : Vis X.env.scope x := by first | exact Or.inl rfl | exact Or.inr (Or.inl rfl) | exact Or.inr (Or.inr rfl)) (hdb : (x == ("__debug__" : Str)) = false := by decide) (hcd : (x == ("__classdict__" : Str)) = false := by decide)
    (he : starEach (e :: es) X.env = (false, eval e X.env) :: starEach es X.env := by rfl) (hpl : (backTo pos (starEach es X.env)).any (·.1) = false := by rfl) : PM X w W (.Call (.Name x p) (e :: es) [] pos) (mCallFv i fv mr) := by
  obtain ⟨ta, pa, sa⟩ := ha
  refine ⟨_, pe_callFv A hr hN hv pa hdb hcd he hpl, fun F O ρ σ H Q hw R hh => ?_⟩
  subst hw
  unfold mCallFv at hh
  split at hh
  · rename_i d ed
    split at hh
    · rename_i f hf
      obtain ⟨v, ev, rv⟩ := R.slot i _ ed
      refine ⟨O, d, f, v, hf, ev, rv, ?_⟩
      have key : Hold F W O σ H (RV F σ H) Q ((mr ρ).bind fun xs ρ1 => if xs.length = n then lift (fnN f xs) ρ1 else .stuck) := by
        cases q : mr ρ with
        | ok xs ρ1 =>
          rw [q] at hh
          show Hold F W O σ H (RV F σ H) Q (if xs.length = n then _ else _)
          rw [if_pos (hn ρ ρ1 xs q)]
          exact hh
        | exc x ρ1 => rw [q] at hh; exact hh
        | stuck => rw [q] at hh; exact hh
      refine sa.bind rfl R key fun xs vs ρ1 O1 H1 st1 R1 rs h1 => ?_
      split at h1
      · rename_i hk
        refine ⟨⟨O1, Rep.step st1 _ _ rv⟩, ?_⟩
        cases q : fnN f xs with
        | none => rw [q] at h1; exact h1.elim
        | some z =>
          rw [q] at h1
          have g := h1.go st1 R1
          refine ⟨O1, none, xs, R1.dom, by rw [rs.length]; exact hk, rs, ?_⟩
          unfold fnN at q
          split at q
          · rename_i z' hz
            cases q
            rw [hz]
            refine ⟨rfl, fun H' v sy rf => ?_⟩
            have gr : Grow H1 H' := fun a o e => sy.kept a o (fun q => by cases q.1) e
            obtain ⟨d, b⟩ := z
            cases b with
            | false => exact g v H' gr rf.1
            | true =>
              obtain ⟨a, m, e1, e2, e3, e4, _⟩ := rf
              exact g v H' gr ⟨a, m, e1, e2, e3, e4⟩
          · cases q
      · exact h1.elim
    · exact hh.elim
  · exact hh.elim
end
end PM
namespace PM
open PySem PySem.Spec PyProof.Rows L2
theorem FvOk.wT {P : Program} {wo : World} {K : PySem.W.Frag} {mg : Str → Option Value} {base : Heap} {w : Wd} {d : D} {n j : Nat} {f : Fn} (h : FvOk P wo K mg base w d n j f) (T : List (Addr × Str)) : FvOk P wo K mg base (w.wT T) d n j f :=
  ⟨fun O v => (h.run O v).imp fun g hg A outer s H us vs Q hr e0 r => by rw [spOf_T]; exact hg A outer s H us vs Q hr e0 ((rep_T d v).mp r)⟩
theorem FvOk.mono {P : Program} {wo : World} {K : PySem.W.Frag} {mg : Str → Option Value} {base : Heap} {w : Wd} {d : D} {n i j : Nat} {f : Fn} (h : FvOk P wo K mg base w d n i f) (hij : i ≤ j) : FvOk P wo K mg base w d n j f :=
  ⟨fun O v => (h.run O v).imp fun g hg A outer s H us vs Q hr e0 r => hg A outer s H us vs Q (hr.mono hij) e0 r⟩
end PM

/-! tables of code objects of any defs, methods too: each by its qualified name and where it stands -/
namespace PM
open PySem PySem.Spec PyProof.Rows L2 LamX
/-- a def that makes lambdas: its qualified name, where it stands -/
structure LK where
  qual : Str
  at_ : PySem.W.Frag → Addr
def tabInA (K : PySem.W.Frag) (f : Addr) : Option (Addr × Addr) := match codeOf K f with
  | some c => (match K.lookup c with
    | some ⟨_, _, .fields vs, _⟩ => (match (vs[11]? : Option Value) with
      | some (.ref P) => some (c, P)
      | _ => none)
    | _ => none)
  | none => none
def tabsOfM (xs : List LK) (K : PySem.W.Frag) : List (Addr × Addr) := xs.filterMap fun x => tabInA K (x.at_ K)
def tabOkM (K : PySem.W.Frag) (g : Addr → Option Obj) (a : Addr) : Bool := match tabInA K a with
  | some (c, P) => PySem.W.codeHdIn K c P && (K.lookup P).isNone && isTab0 (g P)
  | none => false
/-- a def's table: known of K and h -/
def TabOkM (K : PySem.W.Frag) (h : Heap) (a : Addr) : Prop := ∃ c P, tabInA K a = some (c, P) ∧ PySem.W.CodeHd h c P ∧ K.lookup P = none ∧ h.get? P = some tab0
theorem tabOkM_ok {K : PySem.W.Frag} {h : Heap} {a : Addr} (X : K.In h) (e : tabOkM K h.get? a = true) : TabOkM K h a := by
  unfold tabOkM at e
  split at e
  · rename_i c P q
    rw [Bool.and_eq_true, Bool.and_eq_true] at e
    exact ⟨c, P, q, PySem.W.codeHd_of_K X e.1.1, Option.isNone_iff_eq_none.mp e.1.2, isTab0_eq e.2⟩
  · cases e
def tabPM (K : PySem.W.Frag) (a : Addr) : Addr := match tabInA K a with
  | some (_, P) => P
  | none => 0
def tabCM (K : PySem.W.Frag) (a : Addr) : Addr := match tabInA K a with
  | some (c, _) => c
  | none => 0
/-- where they stand among K0 and its part without the tables is one -/
def tabsGoodM (K : PySem.W.Frag) (g : Addr → Option Obj) (xs : List LK) : Bool := xs.all (fun x => tabOkM K g (x.at_ K)) && nodupA (xs.map fun x => tabPM K (x.at_ K))
def NodM (xs : List LK) (K : PySem.W.Frag) : Prop := (xs.map fun x => tabPM K (x.at_ K)).Nodup
def AllTM (xs : List LK) (K : PySem.W.Frag) (h : Heap) : Prop := ∀ x ∈ xs, TabOkM K h (x.at_ K)
def fragTM (n : Nat) (xs : List LK) (g : Addr → Option Obj) : PySem.W.Frag := dropK ((tabsOfM xs (He.frG g (asBf g n ++ [sysModules]))).map (·.2)) (He.frG g (asBf g n ++ [sysModules]))
def obTxM (n : Nat) (cs : List Chk) (fn : List DfM) (fc : List DfC) (ts : List He.Tab) (xs : List LK) (g : Addr → Option Obj) : AlT := forceK (He.frG g (asBf g n ++ [sysModules])) fun K0 => forceK (dropK ((tabsOfM xs K0).map (·.2)) K0) fun K => (obsX cs fn fc ts K, tabsGoodM K g xs)
def hookTxM (n : Nat) (cs : List Chk) (fn : List DfM) (fc : List DfC) (ts : List He.Tab) (xs : List LK) : PySem.W.Hook where
  α := AlT
  obs := fun s => (obsX cs fn fc ts (fragTM n xs s.heap.get?), tabsGoodM (fragTM n xs s.heap.get?) s.heap.get? xs)
  val := fun w => (valX fn fc ts w, true)
  says := fun w h => ∃ K : PySem.W.Frag, K.In h ∧ SaysX cs fn fc ts w K ∧ AllTM xs K h ∧ NodM xs K
  of := fun w s e => by
    have X : (fragTM n xs s.heap.get?).In s.heap := fun a o q => He.frG_in a o (dropK_some q).1
    have e2 : tabsGoodM (fragTM n xs s.heap.get?) s.heap.get? xs = true := (Prod.mk.inj e).2
    unfold tabsGoodM at e2
    rw [Bool.and_eq_true] at e2
    exact ⟨_, X, (Prod.mk.inj e).1, fun x hx => tabOkM_ok X (List.all_eq_true.mp e2.1 x hx), nodupA_ok e2.2⟩
  keeps := fun _ _ _ ⟨K, hK, c, t, nd⟩ k => ⟨K, PySem.W.Frag.In.keeps hK k, c, fun x hx => by
    obtain ⟨c, P, q1, q2, q3, q4⟩ := t x hx
    exact ⟨c, P, q1, q2.keeps k, q3, k _ _ q4⟩, nd⟩
theorem obTxM_eq {n : Nat} {cs : List Chk} {fn : List DfM} {fc : List DfC} {ts : List He.Tab} {xs : List LK} {g : Addr → Option Obj} {s : Shared} (h : ∀ a, g a = s.heap.get? a) : obTxM n cs fn fc ts xs g = (hookTxM n cs fn fc ts xs).obs s := by
  have e : g = s.heap.get? := funext h
  rw [e]
  unfold obTxM
  rw [forceK_eq, forceK_eq]
  rfl
/-! ### the tables of a law's defs -/
def tabWM (xs : List LK) (K : PySem.W.Frag) : List (Addr × Str) := xs.map fun x => (tabPM K (x.at_ K), lamQ x.qual)
def tabCsM (xs : List LK) (K : PySem.W.Frag) : List (Addr × Addr) := xs.map fun x => (tabCM K (x.at_ K), tabPM K (x.at_ K))
theorem tabCsM_ok {xs : List LK} {K : PySem.W.Frag} {h : Heap} (t : AllTM xs K h) : (∀ p ∈ tabCsM xs K, h.get? p.2 = some tab0) ∧ (∀ p ∈ tabCsM xs K, K.lookup p.2 = none) ∧ ∀ p ∈ tabCsM xs K, PySem.W.CodeHd h p.1 p.2 := by
  have key : ∀ x ∈ xs, PySem.W.CodeHd h (tabCM K (x.at_ K)) (tabPM K (x.at_ K)) ∧ K.lookup (tabPM K (x.at_ K)) = none ∧ h.get? (tabPM K (x.at_ K)) = some tab0 := fun x hx => by
    obtain ⟨c, P, q1, q2, q3, q4⟩ := t x hx
    unfold tabCM tabPM
    rw [q1]
    exact ⟨q2, q3, q4⟩
  refine ⟨fun p hp => ?_, fun p hp => ?_, fun p hp => ?_⟩ <;> obtain ⟨x, hx, rfl⟩ := List.mem_map.mp hp
  · exact (key x hx).2.2
  · exact (key x hx).2.1
  · exact (key x hx).1
/-- what the making of a lambda in the def x asks -/
structure TabXM (K : PySem.W.Frag) (base : Heap) (mg : Str → Option Value) (T : List (Addr × Str)) (x : LK) (c P : Addr) : Prop where
  code : ∀ f, x.at_ K = f → codeOf K f = some c
  tab : TabB base mg c P
  mem : (P, lamQ x.qual) ∈ T
  uni : ∀ p ∈ T, p.1 = P → p.2 = lamQ x.qual
theorem tabWM_in (xs : List LK) (K : PySem.W.Frag) : ∀ p ∈ tabWM xs K, p.1 ∈ (tabCsM xs K).map (·.2) := fun p hp => by
  obtain ⟨x, hx, rfl⟩ := List.mem_map.mp hp
  exact List.mem_map.mpr ⟨(tabCM K (x.at_ K), tabPM K (x.at_ K)), List.mem_map.mpr ⟨x, hx, rfl⟩, rfl⟩
theorem tabXM_of {xs : List LK} {K : PySem.W.Frag} {h base : Heap} {mg : Str → Option Value} (t : AllTM xs K h) (nd : NodM xs K) (tb : ∀ p ∈ tabCsM xs K, TabB base mg p.1 p.2) : ∀ x ∈ xs, ∃ c P, TabXM K base mg (tabWM xs K) x c P := fun x hx => by
  obtain ⟨c, P, q1, q2, q3, q4⟩ := t x hx
  have eP : tabPM K (x.at_ K) = P := by unfold tabPM; rw [q1]
  have eC : tabCM K (x.at_ K) = c := by unfold tabCM; rw [q1]
  refine ⟨c, P, fun f hf => ?_, ?_, ?_, fun p hp e => ?_⟩
  · subst hf
    unfold tabInA at q1
    split at q1
    · rename_i c' e4
      split at q1
      · split at q1
        · cases q1
          exact e4
        · cases q1
      · cases q1
    · cases q1
  · have := tb (tabCM K (x.at_ K), tabPM K (x.at_ K)) (List.mem_map.mpr ⟨x, hx, rfl⟩)
    rw [eC, eP] at this
    exact this
  · exact List.mem_map.mpr ⟨x, hx, by rw [eP]⟩
  · obtain ⟨y, hy, rfl⟩ := List.mem_map.mp hp
    have e : tabPM K (y.at_ K) = tabPM K (x.at_ K) := e.trans eP.symm
    have : y = x := by
      clear tb t q1 q2 q3 q4 eP eC hp
      unfold NodM at nd
      induction xs with
      | nil => cases hx
      | cons z r ih =>
        rw [List.map_cons, List.nodup_cons] at nd
        rcases List.mem_cons.mp hx with rfl | hx' <;> rcases List.mem_cons.mp hy with rfl | hy'
        · rfl
        · exact absurd (List.mem_map.mpr ⟨y, hy', e⟩) nd.1
        · exact absurd (List.mem_map.mpr ⟨x, hx', e.symm⟩) nd.1
        · exact ih nd.2 hx' hy'
    rw [this]
end PM

/-! C.m(..), m a class method below which tables grow and that may raise; cls(..) whose __init__ may raise, with defaults -/
namespace PM
open PySem PySem.Spec PyProof.Rows L2
section
variable {w : Wd} {f : Fn} {k : Nat} {E : XK}
/-- data is handed to a T-def -/
theorem coreTN {F : Fr} {O1 : Av} {ρ1 : En} {σ : L2.St} {H1 : Hp} {Q : VK} {xs : List D} {vs : List V} (R1 : Rel F O1 ρ1 σ H1) (rs : RepL F.w O1 H1 xs vs) (hk : xs.length = k)
    (h1 : Hold F (WF E) O1 σ H1 (RV F σ H1) Q (match f none xs with
      | .ret x none => .ok x ρ1
      | .exc xc none => .exc xc ρ1
      | _ => .stuck)) : spT F.w k f vs H1 Q E := by
  have tO := R1.tabO
  refine ⟨O1, none, xs, R1.dom, by rw [rs.length]; exact hk, tO, rs, ?_⟩
  have kpt : ∀ {H' : Hp}, StayT F.w.T O1 none vs H1 H' → ∀ b o, (∀ p ∈ F.w.T, p.1 ≠ b) → H1 b = some o → H' b = some o := fun sy b o n e => sy.kept b o (fun q => by cases q.1) n e
  have kp : ∀ {H' : Hp}, StayT F.w.T O1 none vs H1 H' → ∀ b o, ¬ O1 b → H1 b = some o → H' b = some o := fun sy b o n e => kpt sy b o (fun p hp z => n (z ▸ (tO p hp).1)) e
  split at h1
  · rename_i z hz
    rw [hz]
    refine ⟨rfl, fun H' v sy rf => ?_⟩
    obtain ⟨d, b⟩ := z
    cases b with
    | false =>
      have st2 : Step O1 H1 O1 H' := ⟨fun _ q => .inl q, kp sy, sy.dom⟩
      exact h1 O1 H' v st2 (R1.stepT st2 (fun _ q => q) (fun b q => sy.dom b (R1.dom b q)) (kpt sy) sy.tab) rf.1
    | true =>
      obtain ⟨a, m, e1, e2, e3, e4, _, e6⟩ := rf
      have st2 : Step O1 H1 (ins O1 a) H' := ⟨fun b q => q.elim .inl fun e => .inr (by rw [e]; exact e2), kp sy, sy.dom⟩
      exact h1 (ins O1 a) H' v st2 (R1.stepT st2 (fun _ q => .inl q) (fun b q => q.elim (fun q => sy.dom b (R1.dom b q)) fun z => by rw [z]; exact e4.some) (kpt sy) e6) ⟨a, m, e1, e2, .inr rfl, e3, e4, R1.apart e2⟩
  · rename_i xc hz
    rw [hz]
    refine ⟨rfl, fun H' cls d sy _ xa => ?_⟩
    have st2 : Step O1 H1 O1 H' := ⟨fun _ q => .inl q, kp sy, sy.dom⟩
    exact h1 O1 H' cls d st2 (R1.stepT st2 (fun _ q => q) (fun b q => sy.dom b (R1.dom b q)) (kpt sy) sy.tab) xa
  · exact h1.elim
def mCmX (c : Nat) (f : Fn) (mr : MA) : ME := fun ρ => (mr ρ).bind fun xs ρ1 => match f none (.cls c :: xs) with
  | .ret x none => .ok x ρ1
  | .exc xc none => .exc xc ρ1
  | _ => .stuck
theorem sim_cmTX {c n : Nat} {t : TA} {mr : MA} (hr : SimA w (WF E) t mr) (hn : ∀ (ρ ρ1 : En) (xs : List D), mr ρ = .ok xs ρ1 → xs.length = n) : Sim w (WF E) (ClX.tCMeth (w.cl c) (spT w (n + 1) f) E (tC (.ref (w.cl c))) t) (mCmX c f mr) := fun F O ρ σ H Q hw R hh => by
  subst hw
  refine ⟨rfl, ?_⟩
  have key : Hold F (WF E) O σ H (RV F σ H) Q ((mr ρ).bind fun xs ρ1 => if xs.length = n then (match f none (.cls c :: xs) with
    | .ret x none => .ok x ρ1
    | .exc xc none => .exc xc ρ1
    | _ => .stuck) else .stuck) := by
    unfold mCmX at hh
    cases q : mr ρ with
    | ok xs ρ1 =>
      rw [q] at hh
      show Hold F (WF E) O σ H (RV F σ H) Q (if xs.length = n then _ else _)
      rw [if_pos (hn ρ ρ1 xs q)]
      exact hh
    | exc x ρ1 => rw [q] at hh; exact hh
    | stuck => rw [q] at hh; exact hh
  refine hr.bind rfl R key fun xs vs ρ1 O1 H1 st1 R1 rs h1 => ?_
  split at h1
  · rename_i hk
    refine coreTN (xs := .cls c :: xs) R1 ?_ (by rw [List.length_cons, hk]) (h1.laterV st1)
    show RepL F.w O1 H1 (.cls c :: xs) (.ref (F.w.cl c) :: vs)
    simp only [RepL]
    exact ⟨_, vs, rfl, by simp only [Rep], rs⟩
  · exact h1.elim
end
/-- a class method below which tables may grow and that may raise; n: with cls -/
structure CmTX (P : Program) (wo : World) (K : PySem.W.Frag) (mg : Str → Option Value) (base : Heap) (w : Wd) (c : Nat) (nm : Str) (n j : Nat) (f : Fn) : Prop where
  ex : ∃ g fd ps, CmOk w c nm g ∧ FnOk P wo K mg base (L2.CX P wo) j g fd ps (spT w n f) ∧ Binds K fd ps []
section
variable {w : Wd} {X : Cx} {pos p : Pos} {x : Str} {e : Expr} {es : List Expr} {mr : MA} {fn : Fn} {n k c : Nat} {E : XK} {dD : List D}
theorem pm_cmTX {o m : Str} {apos po : Pos} {pl : Sem Bool} (tk : Takes X (WF E)) (hK : w.K = X.K) (M : CmTX X.prog X.w X.K X.mg X.base w c m (n + 1) k fn) (hr : Room k X.A) (hg : Gl X o) (hm : X.mg o = some (.ref (w.cl c))) (ha : PMA X w (WF E) (e :: es) mr) (hn : Len mr n) (hd : (o == ("__debug__" : Str)) = false := by decide)
    (hst : starEach (e :: es) X.env = (false, eval e X.env) :: starEach es X.env := by rfl) (hpl : (backTo pos (starEach es X.env)).any (·.1) = false := by rfl)
    (ht : eval (.Call (.Attribute (.Name o po) m apos) (e :: es) [] pos) X.env = (do
      let ov ← eval (.Name o po) X.env
      standAt apos.atName
      let (f, first) ← holding [ov] (getMethod ov m pl)
      callWith pos f first (backTo pos (starEach (e :: es) X.env)) (backToKw pos (keywordEach [] X.env))) := by rfl) : PM X w (WF E) (.Call (.Attribute (.Name o po) m apos) (e :: es) [] pos) (mCmX c fn mr) := by
  obtain ⟨g, fd, ps, hp, F, hb⟩ := M.ex
  obtain ⟨mc, p, r, cm⟩ := hp.ex
  rw [hK] at r cm
  obtain ⟨ta, pa, sa⟩ := ha
  have FR : FnR X.prog X.w X.K X.mg X.base (L2.CX X.prog X.w) k g (spT w (n + 1) fn) := (F.raw hb .nil).imp fun vs H Q E h => by rw [List.append_nil]; exact h
  exact ⟨_, ClX.pe_cmeth (pl := pl) (pe_glob (v := .ref (w.cl c)) hg hm rfl hd) r cm FR hr (passes_call tk fun _ _ _ _ z => z) pa hst hpl ht, sim_cmTX sa fun ρ ρ1 xs q => hn ρ ρ1 xs q⟩
/-! ### cls(..) -/
theorem pe_makeLX {i : Nat} {C f : Addr} {fd : FuncData} {ps : List Str} {ds : List Value} {dV : List V} {sp : Sp} {t : TA} (M : Mk X.K C f) (F : FnOk X.prog X.w X.K X.mg X.base (L2.CX X.prog X.w) k f fd ps sp) (hr : Room (k + 1) X.A) (hN : X.N[i]? = some x) (hv : Vis X.env.scope x) (hb : Binds X.K fd ps ds) (hd : Vals dV ds) (hx : Passes (L2.CX X.prog X.w) X E) (ha : PA X (e :: es) t)
    (hdb : (x == ("__debug__" : Str)) = false) (hcd : (x == ("__classdict__" : Str)) = false) (he : starEach (e :: es) X.env = (false, eval e X.env) :: starEach es X.env) (hpl : (backTo pos (starEach es X.env)).any (·.1) = false) :
    PE X (.Call (.Name x p) (e :: es) [] pos) (tMakeL i C (tMake C sp dV E t)) := by
  refine ⟨fun pins s σ H Q I hw => ?_⟩
  obtain ⟨hs, ht⟩ := hw
  refine wpAny_Call_Name_kw (thn ((pe_var (pos := p) hN hv hdb hcd).run pins s σ H (fun v H1 => v = .ref C ∧ H1 = H) I ⟨.ref C, hs, rfl, rfl⟩) fun u s1 hz => ?_)
  obtain ⟨v, H1, I1, r1, e1, e2⟩ := hz
  subst e1
  subst e2
  obtain rfl : u = Value.ref C := r1
  refine PySem.W.callWith_K (h₀ := X.base) I.ok.mod.kin M.kp (thn (ha.run pos pins s1 σ _ _ I1 ht) fun us s2 hz => ?_) he hpl
  obtain ⟨vs, H2, I2, r, q⟩ := hz
  exact ⟨I2.kIn, run_make M F hr hb hd hx I2 r q⟩
def mMakeLX (i c : Nat) (f : Fn) (mr : MA) : ME := fun ρ => match ρ[i]? with
  | some (.val (.cls c')) => if c' = c then mMakeX c f mr ρ else .stuck
  | _ => .stuck
theorem pm_makeLXD {i : Nat} (tk : Takes X (WF E)) (M : MkXD X.prog X.w X.K X.mg X.base w c n k dD fn) (hr : Room (k + 1) X.A) (ha : PMA X w (WF E) (e :: es) mr) (hn : Len mr n) (hN : X.N[i]? = some x := by rfl) (hv : Vis X.env.scope x := by first | exact Or.inl rfl | exact Or.inr (Or.inl rfl) | exact Or.inr (Or.inr rfl)) (hdb : (x == ("__debug__" : Str)) = false := by decide)
    (hcd : (x == ("__classdict__" : Str)) = false := by decide) (he : starEach (e :: es) X.env = (false, eval e X.env) :: starEach es X.env := by rfl) (hpl : (backTo pos (starEach es X.env)).any (·.1) = false := by rfl) : PM X w (WF E) (.Call (.Name x p) (e :: es) [] pos) (mMakeLX i c (wD dD fn) mr) := by
  obtain ⟨g, fd, ps, ds, dV, M, FO, hb, hv2, hc⟩ := M.ex
  obtain ⟨ta, pa, sa⟩ := ha
  refine ⟨_, pe_makeLX M FO hr hN hv hb hv2 (passes_call tk fun _ _ _ _ z => z) pa hdb hcd he hpl, fun F O ρ σ H Q hw R hh => ?_⟩
  unfold mMakeLX at hh
  split at hh
  · rename_i c' q
    split at hh
    · rename_i hc2
      subst hc2
      obtain ⟨v, e1, e2⟩ := R.slot i _ q
      have e2 : Rep F.w O H (.cls c') v := e2
      simp only [Rep] at e2
      subst e2
      rw [hw] at e1
      exact ⟨e1, sim_makeXD hc sa (fun ρ ρ1 xs q => hn ρ ρ1 xs q) F O ρ σ H Q hw R hh⟩
    · exact hh.elim
  · exact hh.elim
end
end PM

/-! what is looked up of records' classes, of defs as values -/
namespace PM
open PySem PySem.Spec PyProof.Rows L2
section
variable {w : Wd} {K : PySem.W.Frag} {C f : Str} {c : Nat}
def rcB (C : Str) : Chk := fun K => (He.Fa.cls C).ok K
theorem rcB_ok (hK : w.K = K) (hc : w.cl c = He.ga K C) (h : rcB C K = true) : RcOk w c := by
  subst hK
  exact ⟨by rw [hc]; exact He.cls_ok h⟩
def naB (C f : Str) : Chk := fun K => He.eqO (PySem.W.findIn K (.ref (He.ga K C)) f) (some none)
theorem naB_ok (hK : w.K = K) (hc : w.cl c = He.ga K C) (h : naB C f K = true) : NoA w c f := by
  subst hK
  exact ⟨by show PySem.W.findIn w.K (.ref (w.cl c)) f = some none; rw [hc]; exact He.eqO_ok h⟩
theorem rmethB_ok (hc : w.cl c = He.ga K C) (h : methB C f K = true) : Meth K (w.cl c) f (metAt C f K) := by
  obtain ⟨h1, h⟩ := He.ba h
  obtain ⟨h2, h3⟩ := He.ba h
  rw [hc]
  exact ⟨He.eqO_ok h1, h2, h3⟩
/-- the keyword-only defaults of C's __init__ -/
def kwmB (C : Str) (kws : List (Str × V)) : Chk := fun K => kwChk (metAt C "__init__" K) kws K
end
section
variable {P : Program} {wo : World} {K : PySem.W.Frag} {mg : Str → Option Value} {base : Heap} {w : Wd}
theorem fv_defOk {x qual : Str} {st : Stmt} {c n j : Nat} {f : Fn} (h : DefOk false P wo K mg base w x n j f) (F : ∃ a fd, Fun K x qual st a fd ∧ mg x = some (.ref a)) (hm : mg x = some (.ref (w.cl c))) : FvOk P wo K mg base w (.cls c) n j f := by
  obtain ⟨a, fd, ps, hl, G, ha, hk, hb⟩ := h
  have G : FnOk P wo K mg base CX0 j a fd ps (spOf w n f) := G
  have ea : a = w.cl c := by
    rw [ha] at hm
    cases hm
    rfl
  subst ea
  obtain ⟨a2, fd2, F, ha2⟩ := F
  have e2 : a2 = w.cl c := by
    rw [ha2] at ha
    cases ha
    rfl
  subst e2
  refine ⟨fun O v => ⟨w.cl c, fun A outer s H us vs Q hr e0 r => ?_⟩⟩
  simp only [Rep] at r
  have inK : K.In s.heap := e0.mod.kin.keeps fun b o e => (e0.bs b o e).1
  refine ⟨r, ?_, fun rv hs => ?_⟩
  · obtain ⟨oc, od, kV, doc, pm, an, cdv, ct, osl, rfl, lk, _⟩ := F.ex
    exact ⟨_, _, _, _, inK _ _ lk⟩
  · have ln : us.length = ps.length := by rw [← rv.length]; exact G.len _ _ _ _ hs
    have bd := hb s us inK (by rw [List.append_nil]; exact ln)
    rw [List.append_nil] at bd
    exact G.run A outer s H ⟨us, []⟩ us vs Q E0 hr e0 bd rv hs
end
section
variable {w : Wd} {W : WX} {X : Cx} {x : Str} {p : Pos} {c : Nat}
/-- a class, a def of the module as a value -/
theorem pm_gcl (hg : Gl X x) (hm : X.mg x = some (.ref (w.cl c))) (hd : (x == ("__debug__" : Str)) = false := by decide) : PM X w W (.Name x p) (mC (.cls c)) :=
  ⟨_, pe_glob (v := .ref (w.cl c)) hg hm rfl hd, sim_c fun O H => by simp only [Rep]⟩
end
/-- the lambda that a statement hands on -/
def lamOfS : Stmt → Option (Arguments × Expr × Scope)
  | .Assign _ (.Call _ [.Lambda a e s _] _ _) _ => some (a, e, s)
  | .Expr (.Call _ [.Lambda a e s _] _ _) _ => some (a, e, s)
  | .Return (some (.Call _ [.Lambda a e s _] _ _)) _ => some (a, e, s)
  | _ => none
end PM
namespace PM
open PySem PySem.Spec PyProof.Rows L2
/-- a written tuple of texts -/
def strsV : List Value → Option (List Str)
  | [] => some []
  | .str x _ :: r => (strsV r).map (x :: ·)
  | _ => none
theorem strsV_ok : ∀ {l : List Value} {xs : List Str}, strsV l = some xs → Vals (xs.map V.str) l
  | [], xs, h => by cases h; exact .nil
  | .str x t :: r, xs, h => by
    unfold strsV at h
    cases q : strsV r with
    | none => rw [q] at h; cases h
    | some ys =>
      rw [q] at h
      cases h
      exact .cons ⟨t, rfl⟩ (strsV_ok q)
def wtB (x : Str) (l : List Str) : Chk := fun K => match K.lookup (He.ga K x) with
  | some ⟨.type T, _, .seq its _, _⟩ => decide (T = "tuple") && (decide (its.size ≤ 1000) && decide (strsV its.toList = some l))
  | _ => false
theorem wtB_ok {w : Wd} {K : PySem.W.Frag} {x : Str} {l : List Str} (hK : w.K = K) (h : wtB x l K = true) : WrT w.K (He.ga K x) (l.map V.str) := by
  subst hK
  unfold wtB at h
  split at h
  · rename_i T d its n sl q
    rw [Bool.and_eq_true, Bool.and_eq_true, decide_eq_true_eq, decide_eq_true_eq, decide_eq_true_eq] at h
    obtain ⟨h1, h2, h3⟩ := h
    subst h1
    exact ⟨_, its, n, q, rfl, rfl, Nat.le_trans h2 (by rw [sizeLine_eq]; decide), strsV_ok h3⟩
  · cases h
section
variable {w : Wd} {W : WX} {X : Cx} {x : Str} {p : Pos} {l : List Str}
theorem pm_gtupS (hg : Gl X x) (h : ∃ a, X.mg x = some (.ref a) ∧ WrT w.K a (l.map V.str)) (hd : (x == ("__debug__" : Str)) = false := by decide) : PM X w W (.Name x p) (mC (.tup (l.map D.str))) := by
  obtain ⟨a, hm, hw⟩ := h
  refine ⟨_, pe_glob (v := .ref a) hg hm rfl hd, sim_c fun O H => ?_⟩
  simp only [Rep]
  refine ⟨a, l.map V.str, rfl, .inr hw, ?_⟩
  clear hw
  induction l with
  | nil => simp [RepL]
  | cons y l ih => simp only [List.map_cons, RepL, Rep]; exact ⟨_, _, rfl, rfl, ih⟩
end
def lamT (st : Stmt) : Arguments × Expr × Scope := (lamOfS st).getD (defArgs st, .Constant .none 0 ⟨0, 0, 0, 0⟩, defScope st)
section
variable {P : Program} {wo : World} {K : PySem.W.Frag} {mg : Str → Option Value} {base : Heap} {w : Wd}
theorem zero_mthTX {c n : Nat} {nm : Str} {f : Fn} {a : Addr} {fd : FuncData} {ps : List Str} {j : Nat} (hf : ∀ om ds, f om ds = .stuck) (hl : ps.length = n) (hm : Meth K (w.cl c) nm a) (hb : Binds K fd ps []) : MthTX P wo K mg base w c nm n j f := by
  have no : ∀ vs H Q E, spT w n f vs H Q E → False := fun vs H Q E h => by
    obtain ⟨O, om, ds, _, _, _, _, hh⟩ := h
    rw [hf] at hh
    exact hh
  exact ⟨⟨a, fd, ps, hm, ⟨fun vs H Q E h => (no _ _ _ _ h).elim, fun A outer s H args us vs Q E hr he hbb hv h => (no _ _ _ _ h).elim⟩, hb⟩⟩
end
end PM

namespace PM.G
open PySem PySem.Spec PyProof.Rows L2 PM
def top (i : Nat) : Stmt := PySem.Challenge.pw_seamsayings_k21_limits_of_sayings.main.body.getD i (.Pass ⟨0, 0, 0, 0⟩)
def inCls (st : Stmt) (j : Nat) : Stmt := match st with
  | .ClassDef _ _ _ b _ _ _ _ _ _ _ => b.getD j (.Pass ⟨0, 0, 0, 0⟩)
  | _ => .Pass ⟨0, 0, 0, 0⟩
abbrev s_l_dice : Stmt := top 30
abbrev s_l_roll : Stmt := top 31
abbrev s_l_pick : Stmt := top 32
abbrev s_l_full : Stmt := top 41
abbrev s_l_word : Stmt := top 40
abbrev s_is_place_variable : Stmt := top 8
abbrev s_is_set_variable : Stmt := top 9
abbrev s_is_variable : Stmt := top 17
abbrev s_is_term : Stmt := top 18
abbrev s_is_form : Stmt := top 19
abbrev s_inner_forms : Stmt := top 20
abbrev s_is_choice : Stmt := top 21
abbrev s_measures_of : Stmt := top 22
abbrev s_is_small : Stmt := top 23
abbrev s_Saying_uinitu : Stmt := inCls (top 27) 1
abbrev s_FormReader_uinitu : Stmt := inCls (top 25) 0
abbrev s_FormReader_take : Stmt := inCls (top 25) 1
abbrev s_FormReader_take_pair : Stmt := inCls (top 25) 3
abbrev s_FormReader_take_atom : Stmt := inCls (top 25) 4
abbrev s_FormReader_take_form : Stmt := inCls (top 25) 2
abbrev s_form_of : Stmt := top 26
abbrev s_Saying_of_text : Stmt := inCls (top 27) 2
abbrev s_l_form_text : Stmt := top 34
abbrev s_l_inner_forms : Stmt := top 35
abbrev s_l_size_of : Stmt := top 36
abbrev s_l_depth_of : Stmt := top 37
abbrev s_l_nested : Stmt := top 38
abbrev s_l_is_small : Stmt := top 39
abbrev s_l_limits_right : Stmt := top 42
abbrev s_l_mixed : Stmt := top 33
abbrev s_l_values_right : Stmt := top 43
abbrev s_lawX : Stmt := top 44
abbrev lk_l_limits_right : LK := ⟨"_law_limits_right", gloAt "_law_limits_right"⟩
abbrev lk_l_values_right : LK := ⟨"_law_values_right", gloAt "_law_values_right"⟩
abbrev lk_lawX : LK := ⟨"law", gloAt "law"⟩
abbrev lk_FormReader_take_form : LK := ⟨"FormReader.take_form", metAt "FormReader" "take_form"⟩
abbrev lk_FormReader_take_pair : LK := ⟨"FormReader.take_pair", metAt "FormReader" "take_pair"⟩
abbrev lk_FormReader_take_atom : LK := ⟨"FormReader.take_atom", metAt "FormReader" "take_atom"⟩
def lamN : List LK := [lk_l_limits_right, lk_l_values_right, lk_lawX, lk_FormReader_take_form, lk_FormReader_take_pair, lk_FormReader_take_atom]
def fns0 : List DfM := [⟨gloAt "_law_dice", "_law_dice", "_law_dice", s_l_dice⟩,
  ⟨gloAt "_law_roll", "_law_roll", "_law_roll", s_l_roll⟩,
  ⟨gloAt "_law_pick", "_law_pick", "_law_pick", s_l_pick⟩,
  ⟨gloAt "_law_full", "_law_full", "_law_full", s_l_full⟩,
  ⟨gloAt "_law_word", "_law_word", "_law_word", s_l_word⟩,
  ⟨gloAt "is_place_variable", "is_place_variable", "is_place_variable", s_is_place_variable⟩,
  ⟨gloAt "is_set_variable", "is_set_variable", "is_set_variable", s_is_set_variable⟩,
  ⟨gloAt "is_variable", "is_variable", "is_variable", s_is_variable⟩,
  ⟨gloAt "is_term", "is_term", "is_term", s_is_term⟩,
  ⟨gloAt "is_form", "is_form", "is_form", s_is_form⟩,
  ⟨gloAt "inner_forms", "inner_forms", "inner_forms", s_inner_forms⟩,
  ⟨gloAt "is_choice", "is_choice", "is_choice", s_is_choice⟩,
  ⟨gloAt "measures_of", "measures_of", "measures_of", s_measures_of⟩,
  ⟨gloAt "is_small", "is_small", "is_small", s_is_small⟩,
  ⟨metAt "Saying" "__init__", "__init__", "Saying.__init__", s_Saying_uinitu⟩,
  ⟨metAt "FormReader" "__init__", "__init__", "FormReader.__init__", s_FormReader_uinitu⟩,
  ⟨metAt "FormReader" "take", "take", "FormReader.take", s_FormReader_take⟩,
  ⟨metAt "FormReader" "take_pair", "take_pair", "FormReader.take_pair", s_FormReader_take_pair⟩,
  ⟨metAt "FormReader" "take_atom", "take_atom", "FormReader.take_atom", s_FormReader_take_atom⟩,
  ⟨metAt "FormReader" "take_form", "take_form", "FormReader.take_form", s_FormReader_take_form⟩,
  ⟨gloAt "form_of", "form_of", "form_of", s_form_of⟩,
  ⟨cmAt "Saying" "of_text", "of_text", "Saying.of_text", s_Saying_of_text⟩,
  ⟨gloAt "_law_form_text", "_law_form_text", "_law_form_text", s_l_form_text⟩,
  ⟨gloAt "_law_inner_forms", "_law_inner_forms", "_law_inner_forms", s_l_inner_forms⟩,
  ⟨gloAt "_law_size_of", "_law_size_of", "_law_size_of", s_l_size_of⟩,
  ⟨gloAt "_law_depth_of", "_law_depth_of", "_law_depth_of", s_l_depth_of⟩,
  ⟨gloAt "_law_nested", "_law_nested", "_law_nested", s_l_nested⟩,
  ⟨gloAt "_law_is_small", "_law_is_small", "_law_is_small", s_l_is_small⟩,
  ⟨gloAt "_law_limits_right", "_law_limits_right", "_law_limits_right", s_l_limits_right⟩,
  ⟨gloAt "_law_mixed", "_law_mixed", "_law_mixed", s_l_mixed⟩]
def fns1 : List DfM := [⟨gloAt "_law_values_right", "_law_values_right", "_law_values_right", s_l_values_right⟩,
  ⟨gloAt "law", "law", "law", s_lawX⟩]
def fns : List DfM := fns0 ++ fns1
def tabs : List He.Tab := []
def names0 : List PySem.Str := ["_wall",
  "SeamError",
  "InvalidSaying",
  "ParseError",
  "SMALL_LETTERS",
  "GREAT_LETTERS",
  "is_place_variable",
  "is_set_variable",
  "MAX_FORMS",
  "MAX_DEPTH",
  "MAX_CHOICES",
  "MAX_WORDS",
  "MAX_TRIES",
  "ENDS",
  "is_variable",
  "is_term",
  "is_form",
  "inner_forms",
  "is_choice",
  "measures_of",
  "is_small",
  "text_of",
  "FormReader",
  "form_of",
  "Saying",
  "require_operand",
  "_law_dice",
  "_law_roll",
  "_law_pick",
  "_law_mixed"]
def names1 : List PySem.Str := ["_law_form_text",
  "_law_inner_forms",
  "_law_size_of",
  "_law_depth_of",
  "_law_nested",
  "_law_is_small",
  "_law_word",
  "_law_full",
  "_law_limits_right",
  "_law_values_right"]
def names : List PySem.Str := names0 ++ names1
abbrev R : PySem.W.OpenRow := PySem.W.OpenLaw.row PySem.Challenge.rw_seamsayings_k21_limits_of_sayings
abbrev si_ParseError : Stmt := inCls (top 4) 0
def sb_ParseError : SupSt := (supOf (defBody si_ParseError)).getD ⟨"", "", "", "", 0, ⟨0, 0, 0, 0⟩, ⟨0, 0, 0, 0⟩, ⟨0, 0, 0, 0⟩, ⟨0, 0, 0, 0⟩, ⟨0, 0, 0, 0⟩, ⟨0, 0, 0, 0⟩, ⟨0, 0, 0, 0⟩, ⟨0, 0, 0, 0⟩, ⟨0, 0, 0, 0⟩, ⟨0, 0, 0, 0⟩⟩
def fcs : List DfC := [⟨metAt "ParseError" "__init__", "__init__", "ParseError" ++ ".__init__", si_ParseError⟩]
def cs0 : List Chk := [sclsB "Saying",
  sisiB "Saying",
  rcB "FormReader",
  naB "FormReader" "own_at",
  naB "FormReader" "own_words",
  gloB "ENDS",
  wtB "ENDS" ["left", "right"],
  gloB "_law_limits_right",
  gloB "_law_values_right",
  gloB "law",
  freeB "abs",
  freeB "int",
  freeB "isinstance",
  freeB "len",
  freeB "list",
  freeB "max",
  freeB "min",
  freeB "range",
  freeB "repr",
  freeB "str",
  freeB "sum",
  freeB "tuple",
  intB "MAX_CHOICES" 4,
  intB "MAX_DEPTH" 8,
  intB "MAX_FORMS" 40,
  intB "MAX_TRIES" 200000,
  intB "MAX_WORDS" 200,
  strB "GREAT_LETTERS" "ABCDEFGHIJKLMNOPQRSTUVWXYZ",
  strB "SMALL_LETTERS" "abcdefghijklmnopqrstuvwxyz",
  gloB "FormReader"]
def cs1 : List Chk := [gloB "InvalidSaying",
  gloB "ParseError",
  gloB "Saying",
  gloB "is_set_variable",
  gloB "is_term",
  gloB "is_variable",
  freeB "super",
  clkB "ParseError" "number",
  exmsB [(1, "ParseError"), (2, "InvalidSaying")],
  sysB,
  err0B "InvalidSaying" "ValueError.__new__" [.type "ValueError", .type "Exception", .type "BaseException", .type "object"],
  kitB (.inl "NoneType") (.inl "str") false,
  kitB (.inl "bool") (.inl "str") false,
  kitB (.inl "int") (.inl "str") false,
  kitB (.inl "str") (.inl "str") true,
  kitB (.inl "tuple") (.inl "str") false,
  kitB (.inl "list") (.inl "str") false,
  kitB (.inl "dict") (.inl "str") false,
  kitB (.inr "Saying") (.inl "str") false,
  kitB (.inl "NoneType") (.inl "tuple") false,
  kitB (.inl "bool") (.inl "tuple") false,
  kitB (.inl "int") (.inl "tuple") false,
  kitB (.inl "str") (.inl "tuple") false,
  kitB (.inl "tuple") (.inl "tuple") true,
  kitB (.inl "list") (.inl "tuple") false,
  kitB (.inl "dict") (.inl "tuple") false,
  kitB (.inr "Saying") (.inl "tuple") false,
  slotB "Saying" "own_form" 0,
  gloB "_law_dice",
  gloB "_law_roll"]
def cs2 : List Chk := [gloB "_law_pick",
  gloB "_law_full",
  gloB "_law_word",
  gloB "is_place_variable",
  gloB "is_form",
  gloB "inner_forms",
  gloB "is_choice",
  gloB "measures_of",
  gloB "is_small",
  mkB "Saying",
  kwmB "Saying" [("is_known", .bl false)],
  mkB "FormReader",
  methB "FormReader" "take",
  methB "FormReader" "take_pair",
  methB "FormReader" "take_atom",
  methB "FormReader" "take_form",
  gloB "form_of",
  cmB "Saying" "of_text",
  gloB "_law_form_text",
  gloB "_law_inner_forms",
  gloB "_law_size_of",
  gloB "_law_depth_of",
  gloB "_law_nested",
  gloB "_law_is_small",
  gloB "_law_mixed",
  errB "ParseError" "number" "ValueError" "ValueError.__init__" "ValueError.__new__" [.type "ValueError", .type "Exception", .type "BaseException", .type "object"] PySem.Challenge.rw_seamsayings_k21_limits_of_sayings.prog.main.file]
def cs : List Chk := cs0 ++ cs1 ++ cs2
abbrev hk : PySem.W.Hook := hookTxM 5 cs fns fcs tabs lamN
def ob (s : PySem.W.SharedT) : AlT := obTxM 5 cs fns fcs tabs lamN (HandSHeadRun.getT s)
theorem ob_eq (s : PySem.W.SharedT) : ob s = hk.obs s.abs := obTxM_eq (HandSHeadRun.getT_eq s)
set_option maxHeartbeats 0 in
theorem runF (w : World) : HandSHeadRun.RunEq R (PySem.W.view R.prog [44]) hk ob 8000 names (w.withFollow "special-get-raises" false) := by
  intro os
  kernel_rfl
set_option maxHeartbeats 0 in
theorem runT (w : World) : HandSHeadRun.RunEq R (PySem.W.view R.prog [44]) hk ob 8000 names (w.withFollow "special-get-raises" true) := by
  intro os
  kernel_rfl
theorem run (w : World) : HandSHeadRun.RunEq R (PySem.W.view R.prog [44]) hk ob 8000 names w := PySem.W.byRow2 "special-get-raises" (P := fun w => HandSHeadRun.RunEq R (PySem.W.view R.prog [44]) hk ob 8000 names w) runF runT w
end PM.G

/-! PMMulT: a tuple once, or not at all. -/
namespace PM
open PySem PySem.Spec PyProof.Rows L2
section
variable {X : Cx}
end
section
variable {w : Wd} {W : WX} {X : Cx} {pos : Pos} {a b : Expr} {ma mb : ME}
end
end PM

/-! {k: v for x in it if t} -/
namespace PM
open PySem PySem.Spec PyProof.Rows L2
section
variable {w : Wd} {W : WX} {X : Cx} {pos : Pos} {kx vx tg iter : Expr} {ifs : List Expr} {scope : Scope} {own : List (Str × Nat)} {mi : MI} {g : MG} {js : List Nat} {mt : MT} {mk mv : ME}
end
/-! ### name = {k: v for ..}, the name a local -/
section
variable {X : Cx}
end
section
variable {w : Wd} {W : WX} {X : Cx} {pos py spos : Pos} {kx vx tg iter : Expr} {ifs : List Expr} {scope : Scope} {own : List (Str × Nat)} {mi : MI} {g : MG} {js : List Nat} {mt : MT} {mk mv : ME}
end
end PM

/-! sorted(xs), sorted(d) of whole numbers; str(i), bool(i) -/
namespace PM
open PySem PySem.Spec PyProof.Rows L2
def intsD : List D → Option (List Int)
  | [] => some []
  | .int x :: ds => (intsD ds).map (x :: ·)
  | _ :: _ => none
theorem intsD_rep {w : Wd} {O : Av} {H : Hp} : ∀ {ds : List D} {vs : List V} {zs : List Int}, intsD ds = some zs → RepL w O H ds vs → vs = zs.map V.int
  | [], vs, zs, h, r => by
    cases h
    simpa [RepL] using r
  | .int x :: ds, vs, zs, h, r => by
    simp only [intsD] at h
    cases q : intsD ds with
    | none => rw [q] at h; cases h
    | some ys =>
      rw [q] at h
      cases h
      simp only [RepL, Rep] at r
      obtain ⟨v, vs', rfl, rfl, r⟩ := r
      rw [intsD_rep q r]
      rfl
section
variable {w : Wd} {W : WX} {X : Cx} {pos p : Pos} {e : Expr} {mr : MA}
end
end PM

/-! sets of whole numbers: sorted(set(xs)), len(set(xs)) -/
namespace PM
open PySem PySem.Spec PyProof.Rows L2
section
variable {P : Program} {w : World} {A : Around} {E : Value → Shared → Prop} {s : Shared}
end
section
variable {X : Cx}
end
end PM

/-! dicts with tuples as keys; k in d, d[k], d[k] = v for any dict, a value or one's own -/
namespace PM
open PySem PySem.Spec PyProof.Rows L2
def tkD : D → Option NestedKey
  | .tup ds => (nkD (.tup ds)).bind fun k => if k.depth ≤ 8 then some k else none
  | _ => none
def hasN (ks : List D) (k : NestedKey) : Bool := ks.any fun d => decide (nkD d = some k)
/-! ### in the heap -/
section
variable {X : Cx} {pins : List (Addr × Obj)} {σ : L2.St} {H : Hp} {s : Shared} {w : Wd} {O : Av}
end

/-! ### readings -/
def xorB (neg b : Bool) : Bool := if neg then !b else b
section
variable {X : Cx} {pins : List (Addr × Obj)} {σ : L2.St} {H : Hp} {s : Shared}
end

/-! ### what they are worth -/
def inK (neg : Bool) (x y : D) : Option Vl := match y with
  | .dct ks ds => (match keyD x with
    | some k => some (dB (xorB neg (hasK ks k)))
    | none => if ks = [] then (tkD x).map fun _ => dB neg else none)
  | .dkt ks ds => (tkD x).map fun k => dB (xorB neg (hasN ks k))
  | _ => none
/-! ### one's own as the second operand -/
section
variable {w : Wd} {W : WX} {X : Cx} {pos p : Pos} {x : Str} {a b o i : Expr} {ma mb mk mv : ME} {n : Nat}
/-! ### len(d) -/
end
end PM

/-! rules wanted for tables: sets of whole numbers, list(range(n)), zip of tuples, {..} with values of any kind, list(d.values()), for over a dict, dict(pairs) with a key twice, str(i), bool(b) -/
namespace PM
open PySem PySem.Spec PyProof.Rows L2
/-! ### sets of whole numbers -/
section
variable {w : Wd} {W : WX} {X : Cx} {pos p p2 pos2 : Pos} {e : Expr} {mr : MA}
/-! ### str(i), bool(b) -/
end
/-! ### list(range(n)) -/
section
variable {w : Wd} {W : WX} {X : Cx} {pos p p2 pos2 : Pos} {e : Expr} {mr : MA}
end
/-! ### zip of two tuples -/
section
variable {w : Wd} {W : WX} {X : Cx} {pos p tpos : Pos} {elts : List Expr} {kk : Nat} {a b : Expr} {mr : MA}
end
/-! ### {'k': e, ..} -/
section
variable {w : Wd} {W : WX} {X : Cx} {pos p : Pos} {z : Str} {j : Nat} {v : Expr} {zs : List Str} {ks : List (Option Expr)} {vs : List Expr} {mv : ME} {mr : MA}
end
/-! ### list(d.values()) -/
section
variable {X : Cx} {e : Expr} {te : TE} {p apos cpos pos : Pos}
end
/-! ### for k in d -/
section
variable {w : Wd} {W : WX} {X : Cx} {pos pd : Pos} {tg : Expr} {body : List Stmt} {mb : MS} {g : MG} {js : List Nat} {x : Str}
end
/-! ### dict(pairs), a key perhaps twice -/
section
variable {w : Wd} {W : WX} {X : Cx} {pos p : Pos} {e : Expr} {mr : MA}
end
/-! ### enumerate(list) -/
section
variable {w : Wd} {W : WX} {X : Cx} {pos p tpos : Pos} {e : Expr} {mr : MA} {elts : List Expr} {kk : Nat}
end
/-! ### a list or a tuple -/
theorem PI.or {X : Cx} {tg it : Expr} {w1 w2 : TI} (h1 : PI X tg it w1) (h2 : PI X tg it w2) : PI X tg it (fun σ H R => w1 σ H R ∨ w2 σ H R) := ⟨fun pins s σ H R I q => q.elim (h1.run pins s σ H R I) (h2.run pins s σ H R I)⟩
/-! ### x, y = e, []: y one's own, x not -/
section
variable {w : Wd} {W : WX} {X : Cx} {x y : Str} {p pos : Pos} {a : Expr} {m : ME}
end
end PM

/-! PMOpX: x & y and ~x of instances with own methods. -/
namespace PM
open PySem PySem.Spec PyProof.Rows L2
section
variable {X : Cx} {w : Wd} {W : WX} {pos : Pos} {e e' : Expr} {m m' : ME}
end
end PM

/-! PMDspN: {k: v}, k a tuple. -/
namespace PM
open PySem PySem.Spec PyProof.Rows L2
section
variable {X : Cx} {w : Wd} {W : WX} {pos : Pos} {k v : Expr} {mk mv : ME} {tk tv : TE}
/-! ### x = e, x one's own dict with tuples as keys from then on -/
def setN (i : Nat) (x : Vl) (ρ : En) : Option En := match x with
  | (.dkt ks vs, true) => if notIo (ρ[i]?) = true then some (ρ.set i (.own (.dkt ks vs))) else none
  | _ => none
end
/-! ### x, y = e, c: x one's own -/
section
variable {w : Wd} {W : WX} {X : Cx} {x y : Str} {pos : Pos} {a : Expr} {m : ME}
end
/-! ### x, y, z = [], [], [] -/
section
variable {w : Wd} {W : WX} {X : Cx} {x y z : Str}
end
end PM

/-! PMSetTI: sorted(set(..)) of tuples of whole numbers. -/
namespace PM
open PySem PySem.Spec PyProof.Rows L2
/-! ### the one sorted list of unlike rows -/
/-! ### the rows of a list -/
section
variable {w : Wd} {W : WX} {X : Cx} {pos p p2 pos2 : Pos} {e : Expr} {mr : MA}
end
end PM

/-! PMIdxT: xs.index(x) of data. -/
namespace PM
open PySem PySem.Spec PyProof.Rows L2
section
variable {w : Wd} {W : WX} {X : Cx} {apos cpos : Pos} {o e : Expr} {m : ME} {mr : MA}
end
end PM

/-! PMRepL: a list repeated. -/
namespace PM
open PySem PySem.Spec PyProof.Rows L2
section
variable {w : Wd} {W : WX} {X : Cx} {pos p : Pos} {a b : Expr} {ma mb : ME}
end
end PM

/-! PMZipN: zip of two tuples, walked with a name (the pair stays out while the next one is made). -/
namespace PM
open PySem PySem.Spec PyProof.Rows L2 RZ
open PySem.W (kdx_alive)
section
variable {prog : Program} {w : World} {A : Around} {E : Value → Shared → Prop} {s : Shared}
end
section
variable {w : Wd} {W : WX} {X : Cx} {pos p xpos : Pos} {x : Str} {a b : Expr} {mr : MA}
end
end PM

/-! PMParC: x, y = e, c by a tuple (names that are cells): x one's own. -/
namespace PM
open PySem PySem.Spec PyProof.Rows L2
section
variable {w : Wd} {W : WX} {X : Cx} {x y : Str} {pos : Pos} {a : Expr} {m : ME}
end
end PM

/-! PMLcO: a comprehension over one's own list, which stays one's own. -/
namespace PM
open PySem L2
section
variable {w : Wd} {W : WX} {X : Cx} {pos pd : Pos} {elt tg : Expr} {ifs : List Expr} {scope : Scope} {own : List (Str × Nat)} {g : MG} {js : List Nat} {mt : MT} {me : ME} {x : Str}
end
end PM

/-! PMDcN: {k: v for x in it}, k a tuple. -/
namespace PM
open PySem PySem.Spec L2
section
variable {X : Cx}
/-! ### one turn within the block, then the whole -/
variable {kx vx tg iter : Expr} {ifs : List Expr} {scope : Scope} {pos : Pos} {g : TG} {tt : TT} {tk tv : TE} {vs : List Nat}
/-- the block between two turns -/
structure BetweenN (X : Cx) (s0 : Shared) (H0 : Hp) (scope : Scope) (ce : Env) (fp : List Addr) (σ : L2.St) (tn : Nat → Heap → Prop) (W : Nat → Nat → Hp → Prop) (m i : Nat) (H : Hp) (s : Shared) : Prop where
  inv : Inv (X.blk s0 H0 scope ce fp) [] σ H s
  at_ : tn i s.heap
  off : ∀ b ∈ fp, H b = none
  w : W i m H
theorem BetweenN.fp {s0 : Shared} {H0 : Hp} {ce : Env} {fp : List Addr} {σ : L2.St} {H : Hp} {s : Shared} (I : Inv (X.blk s0 H0 scope ce fp) [] σ H s) (off : ∀ b ∈ fp, H b = none) : ∀ b ∈ fp, FpOk (X.blk s0 H0 scope ce fp) [] H b := by
  intro b hb
  have e := I.ok.exf b hb
  refine ⟨off b hb, e.1, I.ok.exfs b hb, Or.inl hb, e.2, ?_⟩
  intro p hp
  exact absurd hp (by simp)
/-- a turn's end: the iterator stands where it stood, the block's own names are forgotten -/
theorem BetweenN.close {s0 s1 s2 : Shared} {H0 H2 : Hp} {ce : Env} {fp : List Addr} {σ σ2 : L2.St} {J : It} {it : Addr} {tn : Nat → Heap → Prop} {W : Nat → Nat → Hp → Prop} {m i : Nat} (T : Turn X.prog X.w X.K tg J fp it tn)
    (I : Inv (X.blk s0 H0 scope ce fp) ([] ++ pinsAt fp s1.heap) σ2 H2 s2) (st : tn i s1.heap) (e : wipe σ2 vs = wipe σ vs) (w : W i m H2) : BetweenN X s0 H0 scope ce fp (wipe σ vs) tn W m i H2 s2 := by
  have held : ∀ b ∈ fp, ∀ o, s1.heap.get? b = some o → s2.heap.get? b = some o ∧ H2 b = none := by
    intro b hb o eo
    have q := I.pin (b, o) (List.mem_append_right _ (List.mem_append_right _ (mem_pinsAt hb eo)))
    exact ⟨q.1, q.2.1⟩
  refine ⟨?_, T.keep _ _ _ st fun b hb o eo => (held b hb o eo).1, ?_, w⟩
  · refine (I.unpinned (pins := [])).weak ?_ ?_
    · rw [← e, wipe_length]
    · intro j v ej
      rw [← e] at ej
      exact (wipe_some ej).1
  · intro b hb
    obtain ⟨o, eo, _⟩ := T.obj _ _ st b hb
    exact (held b hb o eo).2
end
section
variable {w : Wd} {W : WX} {X : Cx} {pos : Pos} {kx vx tg iter : Expr} {ifs : List Expr} {scope : Scope} {own : List (Str × Nat)} {mi : MI} {g : MG} {js : List Nat} {mt : MT} {mk mv : ME} {n : Nat}
end
end PM

/-! PMLend: one's own dict lent to a def that reads it; d.get(k), d.pop(k) of one's own dict. -/
namespace PM
open PySem PySem.Spec PyProof.Rows L2
/-! ### data without dicts -/
section
variable {w : Wd} {O : Av} {H : Hp} {a : Addr} {kvs : List (Key × V)}
end
/-! ### arguments, one of them lent -/
section
variable {w : Wd} {W : WX} {X : Cx} {pos p p' : Pos} {x y : Str} {e : Expr} {es : List Expr} {ma : ME} {mr : MA} {ta : TE} {tr : TA} {f : Fn} {n j : Nat}
end
end PM

/-! PMPopK: d.get(k), d.pop(k) of one's own dict. -/
namespace PM
open PySem PySem.Spec PyProof.Rows L2
section
variable {w : Wd} {O : Av} {H : Hp}
end
section
variable {w : Wd} {W : WX} {X : Cx} {p apos cpos : Pos} {x : Str} {e : Expr} {mk : ME} {n : Nat}
end
end PM

/-! PMLtX: < of texts, < of pairs of a whole number and a text. -/
namespace PM
open PySem PySem.Spec PyProof.Rows L2
section
variable {X : Cx} {w : Wd} {W : WX} {a b : Expr} {ma mb : ME} {pos : Pos}
end
end PM

/-! PMLendE: an expression that reads one's own dict as data, which stays one's own. -/
namespace PM
open PySem PySem.Spec PyProof.Rows L2
section
variable {w : Wd} {O : Av} {H : Hp} {a : Addr} {kvs : List (Key × V)}
end
end PM

/-! PMNe0K: d != {}, d.clear() of one's own dict; {k: v}, k a whole number or a text. -/
namespace PM
open PySem PySem.Spec PyProof.Rows L2
section
variable {X : Cx} {w : Wd} {W : WX} {p p1 pos apos cpos : Pos} {x : Str} {k v : Expr} {mk mv : ME} {n : Nat}
end
end PM

/-! PMSortA: sorted(list) of tuples of whole numbers, texts and such tuples. -/
namespace PM
open PySem PySem.Spec PyProof.Rows L2
open PySem.W (EachIs dataLe alike AllAlike Sortable)
section
variable {X : Cx} {pins : List (Addr × Obj)} {σ : L2.St} {H : Hp} {s : Shared}
abbrev Tri := D × V × PyData
def Tri.le : Tri → Tri → Bool := dataLe false fun t : Tri => t.2.2
end
end PM

/-! PMSortB: sorted(list), sorted(d.items()) of tuples of whole numbers, texts and such tuples. -/
namespace PM
open PySem PySem.Spec PyProof.Rows L2
open PySem.W (EachIs dataLe alike AllAlike Sortable)
abbrev Duo := D × PyData
def Duo.le : Duo → Duo → Bool := dataLe false fun t : Duo => t.2
section
variable {X : Cx} {e : Expr} {te : TE} {p apos cpos pos : Pos}
end
end PM

/-! PMSortC: the rules: sorted(list), sorted(d.items()), max(list of ints). -/
namespace PM
open PySem PySem.Spec PyProof.Rows L2
section
variable {w : Wd} {W : WX} {X : Cx} {e : Expr} {me : ME} {mr : MA} {te : TE} {p apos cpos pos : Pos}
/-- the greatest of a list of ints -/
def topI : List Int → Int
  | [] => 0
  | [x] => x
  | x :: xs => let m := topI xs; if m < x then x else m
theorem topI_is : ∀ {zs : List Int} {m : Int}, m ∈ zs → (∀ y ∈ zs, y ≤ m) → topI zs = m
  | [], m, h, _ => by simp at h
  | [x], m, h, _ => by
    simp at h
    exact h.symm
  | x :: y :: zs, m, h, g => by
    show (if topI (y :: zs) < x then x else topI (y :: zs)) = m
    have mem : ∀ l : List Int, l ≠ [] → topI l ∈ l := by
      intro l
      induction l with
      | nil => intro n; exact absurd rfl n
      | cons a l ih =>
        intro _
        cases l with
        | nil => simp [topI]
        | cons b l =>
          have := ih (by simp)
          show (if topI (b :: l) < a then a else topI (b :: l)) ∈ a :: b :: l
          split
          · simp
          · exact List.mem_cons_of_mem _ this
    have tm := mem (y :: zs) (by simp)
    have le := g _ (List.mem_cons_of_mem _ tm)
    rcases List.mem_cons.mp h with rfl | h
    · split
      · rfl
      · omega
    · have e := topI_is h fun z hz => g z (List.mem_cons_of_mem _ hz)
      have := g x List.mem_cons_self
      rw [e]
      split
      · omega
      · rfl
def maxLD : D → Option Vl
  | .lst ds => (intsD ds).bind fun zs => if 0 < zs.length then some (.int (topI zs), false) else none
  | _ => none
theorem pm_maxL (hK : w.K = X.K) (hg : Gl X "max") (hm : X.mg "max" = none) (ha : PMA X w W [e] mr) (hc : X.calm = true := by rfl) (he : starEach [e] X.env = (false, eval e X.env) :: starEach [] X.env := by rfl) : PM X w W (.Call (.Name "max" p) [e] [] pos) (mCall (one1 maxLD) mr) :=
  pm_callB (cr_max hc) (fun O H xs z vs Q dm ee rs k => by
    obtain ⟨x, rfl, ez⟩ := one1_some ee
    clear ee
    obtain ⟨v, rfl, hv⟩ := repl1 rs
    unfold maxLD at ez
    split at ez
    · rename_i ds
      cases q : intsD ds with
      | none => rw [q] at ez; cases ez
      | some zs =>
        rw [q] at ez
        simp only [Option.bind_some] at ez
        split at ez
        · rename_i ok
          cases ez
          simp only [Rep] at hv
          obtain ⟨a, us, rfl, h1, h2⟩ := hv
          rw [intsD_rep q h2] at h1
          refine ⟨a, zs, rfl, hK ▸ sl_of_rep h1, ok, fun m hm1 hm2 => ?_⟩
          have em := topI_is hm1 hm2
          subst em
          exact k.int
        · cases ez
    · cases ez) hg hm (by decide +kernel) ha (by decide) (by decide) he
end
end PM

/-! PMSortK: sorted(list, key=f), f a def whose worth is a text. -/
namespace PM
open PySem PySem.Spec PyProof.Rows L2
open PySem.W (EachIs dataLe alike AllAlike Sortable KeyedOut KeepsBut)
section
variable {X : Cx} {pins : List (Addr × Obj)} {σ : L2.St} {A : Around} {f : Addr} {sp : Sp}
end
/-! the order, told so that it can be worked out -/
section
variable {w : Wd} {W : WX} {X : Cx} {pos p p2 kpos : Pos} {x : Str} {e : Expr} {mr : MA} {fn : Fn} {j : Nat}
end
end PM

/-! PMCallF: f(g(..)), f(g(..), 4): a new list is handed on, which f may change and nobody sees again. -/
namespace PM
open PySem L2
section
variable {w : Wd} {W : WX} {X : Cx} {pos p : Pos} {x : Str} {e : Expr} {f : Fn} {j : Nat} {m0 : ME}
def tCs (cs : List Int) : TA := fun _ H Q => Q (cs.map V.int) H
end
end PM

/-! for k, v in e.items(), e a call whose answer is a dict of its own -/
namespace PM
open PySem PySem.Spec PyProof.Rows L2
section
variable {X : Cx} {tg e : Expr} {td : TE} {apos cpos : Pos}
end
section
variable {w : Wd} {W : WX} {X : Cx} {e : Expr} {m : ME} {apos cpos tpos : Pos} {elts : List Expr} {kk : Nat}
end
end PM

/-! PMSetW: sets whose elements are tuples of elements of one kind (texts): the search, adding. -/
namespace PM
open PySem PySem.Spec PyProof.Rows L2
section
variable {P : Program} {w : World} {A : Around} {E : Value → Shared → Prop} {s : Shared} {K0 : Type} [DecidableEq K0] {knd : KeyKind P w K0}
abbrev IsW (knd : KeyKind P w K0) (h : Heap) (k : List K0) (b : Addr) : Prop := IsTupleKey knd h k b
/-! ### the set -/
abbrev Row (K0 : Type) := Addr × List K0
abbrev hk (knd : KeyKind P w K0) (p : Row K0) : Int := tupleKeyHash knd p.2
abbrev entW (knd : KeyKind P w K0) (p : Row K0) : Int × Value := (hk knd p, Value.ref p.1)
/-- the set at a holds the tuples L -/
structure WSet (knd : KeyKind P w K0) (h : Heap) (a : Addr) (L : List (Row K0)) (es : Array (Int × Value)) (ep : Nat) (t : SetTable) : Prop where
  ob : ∃ o, h.get? a = some o ∧ o.ExactSet ∧ o.data = .set es ep t
  rows : es.toList = L.map (entW knd)
  tab : TabOk t (L.map (hk knd))
  nd : (L.map (·.2)).Nodup
  tup : ∀ p ∈ L, IsW knd h p.2 p.1
  led : w.params.followText "set-order" = true ∨ t.led = true
  room : L.length * 5 < t.mask * 3
  few : L.length < 64
variable {a : Addr} {L : List (Row K0)} {es : Array (Int × Value)} {ep : Nat} {t : SetTable}
theorem rows_size (h : es.toList = L.map (entW knd)) : es.size = L.length := by
  have := congrArg List.length h
  rwa [Array.length_toList, List.length_map] at this
theorem rows_at (h : es.toList = L.map (entW knd)) {i : Nat} {p : Row K0} (e : L[i]? = some p) : es[i]? = some (entW knd p) := by
  rw [← Array.getElem?_toList, h, List.getElem?_map, e]
  rfl
theorem fits_of (h : es.toList = L.map (entW knd)) (T : t.place.size = es.size) (D : t.dummies = #[]) (q : es.size ≤ t.mask) : t.fits es.size = true := by
  unfold SetTable.fits SetTable.fill
  rw [D, Bool.and_eq_true, beq_iff_eq, decide_eq_true_eq]
  exact ⟨T, by show t.place.size + 0 ≤ t.mask; omega⟩
theorem WSet.fit (R : WSet knd s.heap a L es ep t) : t.fits es.size = true := by
  have z1 := R.tab.sz
  rw [List.length_map] at z1
  have z2 := rows_size R.rows
  have z3 := R.room
  exact fits_of R.rows (by omega) R.tab.dm (by omega)
theorem WSet.here (R : WSet knd s.heap a L es ep t) {i j : Nat} (h : t.place.toList[i]? = some j) : ∃ p, L[i]? = some p ∧ p ∈ L := by
  have l1 := (List.getElem?_eq_some_iff.mp h).1
  have l2 := R.tab.sz
  rw [List.length_map] at l2
  rw [Array.length_toList] at l1
  have l3 : i < L.length := by omega
  exact ⟨_, List.getElem?_eq_getElem l3, List.getElem_mem l3⟩
/-- one candidate asked -/
theorem asked (R : WSet knd s.heap a L es ep t) (hu : A.units < cLine) {x : Addr} {k : List K0} (hx : IsW knd s.heap k x) {i j : Nat} {p : Row K0} {next : SetTable.Probe} {f : Nat} {Q : SetFound → Shared → Prop} (hp : L[i]? = some p) (hj : t.place.toList[i]? = some j)
    (yes : p.2 = k → Q (.there none) s) (no : p.2 ≠ k → wpAny (model P w) A (setSearchFrom a (.ref x) (tupleKeyHash knd k) true f (some next)) Q E s) : wpAny (model P w) A (searchRest a (.ref x) (tupleKeyHash knd k) true f es t j i next) Q E s := by
  obtain ⟨o, ho, _, hd⟩ := R.ob
  have hy := R.tup p (List.mem_of_getElem? hp)
  unfold searchRest
  rw [rows_at R.rows hp]
  dsimp only
  refine wpAny_bind (wpAny_holding (wpAny_eqBool_tuple hu hy hx (wpAny_bind (wpAny_setState_of ho hd R.fit ?_))))
  dsimp only
  by_cases c : p.2 = k
  · exact wp_if_pos (by simp [c]) (wpAny_pure (yes c))
  · refine wp_if_neg (by simp [c]) ?_
    try refine wpAny_bind (wpAny_pure ?_)
    rw [sameMem]
    dsimp only
    simp only [if_true, slot_live R.tab.ris hj, rows_at R.rows hp]
    refine wpAny_bind (wpAny_isSame_ref_self (wpAny_bind (wpAny_pure ?_)))
    simp only [if_true]
    exact wp_if_neg (by simp [c]) (no c)
end
end PM

/-! PMSetV: set(list of tuples of texts), sorted of it. -/
namespace PM
open PySem PySem.Spec PyProof.Rows L2
open PySem.W (EachIs dataLe alike AllAlike Sortable)
section
variable {K0 : Type}
end
section
variable {P : Program} {w : World} {A : Around} {E : Value → Shared → Prop} {s : Shared} {K0 : Type} [DecidableEq K0] {knd : KeyKind P w K0}
end
end PM

/-! PMSetR: sorted(set(list of tuples of texts)) -/
namespace PM
open PySem PySem.Spec PyProof.Rows L2
open PySem.W (EachIs dataLe dataLt alike alikeAll AllAlike Sortable)
section
variable {X : Cx} {pins : List (Addr × Obj)} {σ : L2.St} {H : Hp} {s : Shared}
end
/-! ### the order of rows, told so that it can be worked out -/
/-! ### the rule -/
section
variable {w : Wd} {W : WX} {X : Cx} {pos p p2 pos2 : Pos} {e : Expr} {mr : MA}
end
end PM

/-! PMDkf: dicts with tuples as keys that never change: walked, listed, starred. -/
namespace PM
open PySem PySem.Spec PyProof.Rows L2
section
variable {X : Cx} {pins : List (Addr × Obj)} {σ : L2.St} {H : Hp} {s : Shared} {d : Addr} {o : Obj} {xs : List (NestedKey × Addr × V)}
end
section
variable {P : Program} {w : World} {K : PySem.W.Frag} {tg : Expr} {d : Addr} {o : Obj} {xs : List (NestedKey × Addr × V)} {es : Array DictEntry} {ep : Nat}
end
section
variable {X : Cx} {tg e : Expr} {td : TE}
end
/-! ### list(d), [*d, ..] -/
section
variable {X : Cx} {pins : List (Addr × Obj)} {σ : L2.St} {H : Hp} {s : Shared} {d : Addr} {o : Obj} {xs : List (NestedKey × Addr × V)}
variable {e : Expr} {es : List Expr} {te : TE} {t : TA} {p : Pos}
end
/-! ### what they are worth -/
section
variable {w : Wd} {W : WX} {X : Cx} {pos p : Pos} {e it tg : Expr} {es : List Expr} {m : ME} {mr : MA}
end
end PM

/-! PMDcF: {k: v for x in it}, k a tuple; a dict that never changes from then on. -/
namespace PM
open PySem PySem.Spec L2
section
variable {w : Wd} {W : WX} {X : Cx} {pos : Pos} {kx vx tg iter : Expr} {ifs : List Expr} {scope : Scope} {own : List (Str × Nat)} {mi : MI} {g : MG} {js : List Nat} {mt : MT} {mk mv : ME} {n : Nat}
end
end PM

/-! PMEqT: == of two tuples, the first items instances, the others texts: with either answer. -/
namespace PM
open PySem PySem.Spec PyProof.Rows L2
section
variable {X : Cx} {w : Wd} {pins : List (Addr × Obj)} {σ : L2.St} {H : Hp} {s : Shared} {O : Av}
end
section
variable {X : Cx} {w : Wd} {c j : Nat} {g : Addr} {fn : Fn}
/-! ### (x, a, ..) == (y, b, ..) -/
end
section
variable {w : Wd} {W : WX} {X : Cx} {pos : Pos} {e e' : Expr} {m m' : ME} {c j : Nat} {g : Addr} {fn : Fn}
end
end PM

/-! PMDkE: == of two dicts with tuples as keys, all worths True. -/
namespace PM
open PySem PySem.Spec PyProof.Rows L2
section
variable {prog : Program} {wo : World} {K : Type} [DecidableEq K] {knd : HeapKind prog wo K} {A : Around} {E : Value → Shared → Prop} {s : Shared}
end
section
variable {X : Cx} {w : Wd} {O : Av} {H : Hp}
end
section
variable {w : Wd} {W : WX} {X : Cx} {pos : Pos} {e e' : Expr} {m m' : ME} {n : Nat}
end
end PM

/-! PMMinT: < of pairs of texts; min, max of two texts and of a tuple of whole numbers; tuple(text); sets as data. -/
namespace PM
open PySem PySem.Spec PyProof.Rows L2
/-! ### (text, text) < (text, text) -/
section
variable {X : Cx} {w : Wd} {W : WX} {a b : Expr} {ma mb : ME} {pos : Pos}
end
/-! ### max, min of two texts -/
section
variable {prog : Program} {wo : World} {A : Around} {E : Value → Shared → Prop} {s : Shared}
end
section
variable {X : Cx}
/-! ### max, min of a tuple of whole numbers -/
end
section
variable {w : Wd} {W : WX} {X : Cx} {pos p : Pos} {e a b : Expr} {mr : MA} {n : Nat}
/-! ### a set of texts as data -/
end
end PM

/-! PMZipL: list(zip(xs, text)), xs a list of texts. -/
namespace PM
open PySem PySem.Spec PyProof.Rows L2
section
variable {prog : Program} {w : World} {A : Around} {E : Value → Shared → Prop} {s : Shared} {z TI TO i1 i2 : Addr} {fp1 fp2 : List Addr} {n1 n2 i : Nat} {P1 P2 : Nat → Value → Prop} {St1 St2 : Nat → Heap → Prop} {a1 a2 : Value}
/-- the zip between two turns; S: the list that is being filled -/
def ZI (z TI TO i1 i2 S : Addr) (St1 St2 : Nat → Heap → Prop) (i : Nat) (h : Heap) : Prop := IsTupOf2 h TI (.ref i1) (.ref i2) ∧ St1 i h ∧ St2 i h ∧
  ((IsZip h z TI TO .none ∧ ∃ a b, IsTupOf2 h TO a b) ∨ ∃ T f oT, IsZipHeld h z TI TO T f ∧ h.get? T = some oT ∧ T ≠ z ∧ T ≠ i1 ∧ T ≠ i2 ∧ T ≠ S)
theorem ZI.keep {S0 : Addr} (D1 : Draws prog w A i1 fp1 n1 P1 St1) (D2 : Draws prog w A i2 fp2 n2 P2 St2) {h h' : Heap} (hi : ZI z TI TO i1 i2 S0 St1 St2 i h) (hz : S0 ≠ z) (hTI : S0 ≠ TI) (hTO : S0 ≠ TO) (f1 : S0 ∉ fp1) (f2 : S0 ∉ fp2) (k : ∀ b o, b ≠ S0 → h.get? b = some o → h'.get? b = some o) : ZI z TI TO i1 i2 S0 St1 St2 i h' := by
  obtain ⟨e1, st1, st2, hh⟩ := hi
  refine ⟨k _ _ hTI.symm e1, D1.frame _ _ _ st1 fun b hb o e => k b o (fun q => f1 (q ▸ hb)) e, D2.frame _ _ _ st2 fun b hb o e => k b o (fun q => f2 (q ▸ hb)) e, ?_⟩
  rcases hh with ⟨hz', a, b, hTO'⟩ | ⟨T, f, oT, hz', hT, t1, t2, t3, t4⟩
  · exact .inl ⟨k _ _ hz.symm hz', a, b, k _ _ hTO.symm hTO'⟩
  · exact .inr ⟨T, f, oT, k _ _ hz.symm hz', k _ _ t4 hT, t1, t2, t3, t4⟩
/-- the tuples that were made -/
structure ZG (P1 P2 : Nat → Value → Prop) (lo : Addr) (h : Heap) (as : List Addr) : Prop where
  rise : as.Pairwise (· < ·)
  above : ∀ a ∈ as, lo < a
  pairs : ∀ (j : Nat) (a : Addr), as[j]? = some a → ∃ x1 x2, P1 j x1 ∧ P2 j x2 ∧ h.get? a = some { cls := .type "tuple", data := .seq #[x1, x2] }
end
end PM

/-! PMZipM: list(zip(xs, text)): the rule. -/
namespace PM
open PySem PySem.Spec PyProof.Rows L2
section
variable {prog : Program} {w : World} {A : Around} {E : Value → Shared → Prop} {s : Shared} {z TI TO i1 i2 : Addr} {fp1 fp2 : List Addr} {n1 n2 i : Nat} {P1 P2 : Nat → Value → Prop} {St1 St2 : Nat → Heap → Prop} {a1 a2 : Value}
end
/-! ### as tracked objects -/
section
variable {X : Cx} {a b : Expr} {ta : TA} {p p2 pos pos2 : Pos}
end
/-! ### what it is worth -/
section
variable {w : Wd} {W : WX} {X : Cx} {a b : Expr} {mr : MA} {p p2 pos pos2 : Pos}
end
end PM

/-! PMTupS: tuple(text), list(dict). -/
namespace PM
open PySem PySem.Spec PyProof.Rows L2
section
variable {prog : Program} {w : World} {A : Around} {E : Value → Shared → Prop} {s : Shared}
end
section
variable {X : Cx}
end
section
variable {w : Wd} {W : WX} {X : Cx} {pos p : Pos} {e : Expr} {mr : MA}
end
end PM

/-! PMDunN: in, not in of an instance with its own __contains__, as tests. -/
namespace PM
open PySem PySem.Spec PyProof.Rows L2
section
variable {X : Cx} {C g : Addr} {sp : Sp} {n : Nat}
end
section
variable {w : Wd} {W : WX} {X : Cx} {pos p : Pos} {a b e : Expr} {ma mb : ME} {mr : MA} {c n : Nat} {g : Addr} {fn : Fn}
end
end PM

/-! PMFldI: self.f within __init__, where it has been set. -/
namespace PM
open PySem PySem.Spec PyProof.Rows L2
section
variable {w : Wd} {W : WX} {X : Cx} {pos p : Pos} {x f : Str}
end
end PM

/-! PMEqC: ==, != of instances of two classes. -/
namespace PM
open PySem PySem.Spec PyProof.Rows L2
section
variable {w : Wd} {W : WX} {X : Cx} {pos : Pos} {e e' : Expr} {m m' : ME} {c c' n : Nat} {g : Addr} {fn : Fn}
end
end PM

/-! PMSortT: sorted(list of texts), sorted(list of tuples of texts), told by insertion sorts. -/
namespace PM
open PySem PySem.Spec PyProof.Rows L2
open PySem.W (EachIs dataLe alike AllAlike Sortable)
section
variable {w : Wd} {W : WX} {X : Cx} {e : Expr} {mr : MA} {p pos : Pos}
end
end PM

/-! PMLc2: [e for x in it if t for y in it1 if t1]. -/
namespace PM
open PySem L2
section
variable {J : It} {n : Nat} {G : Hp → Prop} {Y : Nat → Hp → V → Hp → Prop}
end
section
variable {w : Wd} {W : WX} {X : Cx} {pos spos py : Pos} {elt tg iter tg1 iter1 : Expr} {ifs ifs1 : List Expr} {scope : Scope} {own : List (Str × Nat)} {mi mi1 : MI} {g g1 : MG} {js js1 vs1 : List Nat} {mt mt1 : MT} {me : ME}
def tiOf (w : Wd) (W : WX) (m : MI) : TI := fun σ H R => ∃ (F : Fr) (O : Av) (ρ : En), F.w = w ∧ Rel F O ρ σ H ∧ Hold F W O σ H (RIt F.w) R (m ρ)
theorem PMI.pe {tg it : Expr} {m : MI} (h : PMI X w W tg it m) : PI X tg it (tiOf w W m) := by
  obtain ⟨te, p, s⟩ := h
  exact ⟨fun pins s0 σ H R I ⟨F, O, ρ, hw, R0, hh⟩ => p.run pins s0 σ H R I (s F O ρ σ H R hw R0 hh)⟩
end
end PM

/-! PMIterI: an instance walked, whose __iter__ gives iter(a tuple that it keeps). -/
namespace PM
open PySem PySem.Spec PyProof.Rows L2
/-- a def's promise that knows how great the heap was at its start -/
def FnRN (P : Program) (w : World) (K : PySem.W.Frag) (mg : Str → Option Value) (base : Heap) (CX : CXT) (k : Nat) (f : Addr) (sp : Nat → Sp) : Prop :=
  ∀ (A : Around) (outer : List Env) (s : Shared) (H : Hp) (us : List Value) (vs : List V) (Q : VK) (E : XK), Room k A → Env0 P w K mg base A outer s H → Vals vs us → sp s.heap.objs.size vs H Q E →
    codeAny (model P w) A (.call (.ref f) ⟨us, []⟩) (CR CX outer P w H s Q E) s
theorem FnRN.mono {P : Program} {w : World} {K : PySem.W.Frag} {mg : Str → Option Value} {base : Heap} {CX : CXT} {j k : Nat} {f : Addr} {sp : Nat → Sp} (F : FnRN P w K mg base CX j f sp) (h : j ≤ k) : FnRN P w K mg base CX k f sp := fun A outer s H us vs Q E hr => F A outer s H us vs Q E (hr.mono h)
section
variable {P : Program} {wo : World} {K : PySem.W.Frag} {mg : Str → Option Value} {base : Heap}
end
section
variable {X : Cx} {C fi : Addr} {i n : Nat} {tg l : Expr} {te : TE}
end
section
variable {w : Wd} {W : WX} {X : Cx} {tg it : Expr} {m : ME} {c i n : Nat} {gi : Addr}
end
end PM

/-! PMInV: x in d.values(), x not in d.values(), texts. -/
namespace PM
open PySem PySem.Spec PyProof.Rows L2
section
variable {prog : Program} {w : World} {K : Type} [DecidableEq K] {knd : KeyKind prog w K} {A : Around} {R : Result → Shared → Prop} {it d : Addr} {ep : Nat} {kvs : List (K × Value)} {z : Str} {t : Tok}
end

section
variable {X : Cx} {a e : Expr} {ta te : TE} {p apos cpos pos : Pos}
end
/-! ### what it is worth -/
section
variable {w : Wd} {W : WX} {X : Cx} {a e : Expr} {ma me : ME} {p apos cpos pos : Pos}
end
end PM

/-! PMStarA: dict displays with a star, at the level of wpAny. -/
namespace PM
open PySem PySem.Spec PyProof.Rows L2
section
variable {prog : Program} {w : World} {K : Type} [DecidableEq K] {knd : KeyKind prog w K} {A : Around} {E : Value → Shared → Prop} {s : Shared}
end
end PM

/-! PMStarB: {**d, k: v}, {k: v, .., **d}. -/
namespace PM
open PySem PySem.Spec PyProof.Rows L2
section
variable {X : Cx} {pins : List (Addr × Obj)} {σ : L2.St} {H : Hp} {s : Shared} {p : Addr} {o : HO}
end
section
variable {P : Program} {w : World} {A : Around} {E : Value → Shared → Prop} {s : Shared}
end
/-! ### the plain side -/
section
variable {w : Wd} {W : WX} {X : Cx} {pos : Pos} {e k v k2 v2 : Expr} {me mk mv mk2 mv2 : ME}
end
/-! ### {k: v, k2: v2}, anything within -/
section
variable {w : Wd} {W : WX} {X : Cx} {pos : Pos} {k v k2 v2 : Expr} {mk mv mk2 mv2 : ME}
end
end PM

/-! PMSwapK: d[a], d[b] = e, d an own dict. -/
namespace PM
open PySem PySem.Spec PyProof.Rows L2
section
variable {w : Wd} {W : WX} {X : Cx} {x : Str} {p p2 pos pos2 : Pos} {k1 k2 e : Expr} {mk1 mk2 m : ME}
end
end PM

/-! PMZipLL: list(zip(xs, ys)), two lists. -/
namespace PM
open PySem PySem.Spec PyProof.Rows L2
section
variable {X : Cx} {a b : Expr} {ta : TA} {p p2 pos pos2 : Pos}
end
/-! ### what it is worth -/
section
variable {w : Wd} {W : WX} {X : Cx} {a b : Expr} {mr : MA} {p p2 pos pos2 : Pos}
end
end PM

/-! PMTupK: tuple(d). -/
namespace PM
open PySem PySem.Spec PyProof.Rows L2
section
variable {prog : Program} {w : World} {A : Around} {E : Value → Shared → Prop} {s : Shared} {T : String} {r d : Addr} {n : Nat} {P : Nat → Value → Prop} {OK : Heap → Prop}
end
section
variable {X : Cx}
end
section
variable {w : Wd} {W : WX} {X : Cx} {pos p : Pos} {e : Expr} {mr : MA}
end
end PM

/-! PMEqV: == of lists and dicts, nested, where they are equal. -/
namespace PM
open PySem PySem.Spec PyProof.Rows L2
section
variable {X : Cx} {pins : List (Addr × Obj)} {σ : L2.St} {H : Hp} {s : Shared}
end
/-! ### what it is worth: alike, and told in the same order -/
section
variable {w : Wd} {W : WX} {X : Cx} {pos : Pos} {a b : Expr} {ma mb : ME} {k : Nat}
end
end PM

/-! PMParOE: x, y = e, e2 by a tuple (names that are cells): x one's own, e2 anything. -/
namespace PM
open PySem PySem.Spec PyProof.Rows L2
section
variable {w : Wd} {W : WX} {X : Cx} {x y : Str} {pos : Pos} {a b : Expr} {m m2 : ME}
end
end PM

/-! PMUnl: a, b = e, e a list. -/
namespace PM
open PySem PySem.Spec PyProof.Rows L2
section
variable {w : Wd} {X : Cx} {pos : Pos}
end
end PM

/-! PMDicN: dict(a list of pairs), the keys tuples, each once. -/
namespace PM
open PySem PySem.Spec PyProof.Rows L2
section
variable {X : Cx} {pins : List (Addr × Obj)} {σ : L2.St} {H : Hp} {s : Shared}
end
section
variable {w : Wd} {W : WX} {X : Cx} {pos p : Pos} {e : Expr} {mr : MA} {n : Nat}
end
end PM

/-! ==, !=, in, not in, where a dict meets what is no dict -/
namespace PM
open PySem PySem.Spec PyProof.Rows L2 PySem.SeqAt PySem.MeetsSeq AutoSeq1
/-! ### subtypes -/
/-! ### the other side declines -/
/-! ### a dict and what is none -/
def IsD (s : Shared) (l : Addr) : Prop := ∃ (o : Obj) (es : Array DictEntry) (ep : Nat), s.heap.get? l = some o ∧ o.cls = .type "dict" ∧ o.data = .dict es ep
section
variable {A : Around} {s : Shared} {a : Addr}
theorem IsD.ty (h : IsD s a) : s.TypeIs (.ref a) "dict" := by
  obtain ⟨o, es, ep, h1, h2, _⟩ := h
  exact ⟨o, h1, h2⟩
/-- what is no dict -/
inductive NoDv (s : Shared) : Value → Prop
  | non : NoDv s .none
  | bl (b : Bool) : NoDv s (.bool b)
  | int (i : Int) (t : Tok) : NoDv s (.int i t)
  | str (x : Str) (t : Tok) : NoDv s (.str x t)
  | lst {l : Addr} {items : Array Value} (h : s.heap.IsList l items) : NoDv s (.ref l)
  | tup {l : Addr} {items : Array Value} (h : s.heap.IsTuple l items) : NoDv s (.ref l)
end
/-! ### as operators -/
section
variable {X : Cx} {pins : List (Addr × Obj)} {σ : L2.St} {H : Hp} {s : Shared} {v : V} {u : Value}
end
/-! ### as data -/
section
variable {w : Wd} {W : WX} {X : Cx} {pos : Pos} {a b : Expr} {ma mb : ME} {O : Av} {H : Hp} {d : D} {v : V}
end
end PM

/-! try with clauses some of which name the error; no error leaves it -/
namespace PM
open PySem PySem.Spec PyProof.Rows L2
/-- a clause: its class, whether it names the error, its suite -/
abbrev ClM := Value × Bool × (Addr → Value → Option Addr → TS)
/-- what the clauses wish -/
def wM (K : PySem.W.Frag) (i : Nat) (D : Ends) : List ClM → WX
  | [] => W0
  | (c, true, ts) :: r => fun cls d σ H => ∃ b, PySem.W.exmOne K cls c = some b ∧ (b = true → ∀ a, H a = none → ts a cls d (endsN i D) (σ.set i (some (.ref a))) H) ∧ (b = false → wM K i D r cls d σ H)
  | (c, false, ts) :: r => fun cls d σ H => ∃ b, PySem.W.exmOne K cls c = some b ∧ (b = true → ∀ a, H a = none → ts a cls d D σ H) ∧ (b = false → wM K i D r cls d σ H)
inductive HdMx (X : Cx) (n : Str) : List ExceptHandler → List ClM → Prop
  | nil : HdMx X n [] []
  | named {x : Str} {c : Value} {ts : Addr → Value → Option Addr → TS} {st : Stmt} {su : List Stmt} {np ps : Pos} {hs : List ExceptHandler} {l : List ClM} (nm : Names X x c)
      (ok : ∀ (a : Addr) (oe : Obj) (cls : Value) (d : Option Addr) (pn : List (Addr × Obj)), Zc cls d oe → (∃ vs, oe.data = .fields vs) → PSs (X.suite a ((a, oe) :: pn)) (st :: su) (ts a cls d)) (r : HdMx X n hs l) :
      HdMx X n (.ExceptHandler (some (.Name x np)) (some n) (st :: su) ps :: hs) ((c, true, ts) :: l)
  | plain {x : Str} {c : Value} {ts : Addr → Value → Option Addr → TS} {st : Stmt} {su : List Stmt} {np ps : Pos} {hs : List ExceptHandler} {l : List ClM} (nm : Names X x c)
      (ok : ∀ (a : Addr) (oe : Obj) (cls : Value) (d : Option Addr) (pn : List (Addr × Obj)), Zc cls d oe → (∃ vs, oe.data = .fields vs) → PSs (X.suite a ((a, oe) :: pn)) (st :: su) (ts a cls d)) (r : HdMx X n hs l) :
      HdMx X n (.ExceptHandler (some (.Name x np)) none (st :: su) ps :: hs) ((c, false, ts) :: l)
section
variable {X : Cx} {n : Str} {i : Nat} {body : List Stmt} {hd : ExceptHandler} {hs : List ExceptHandler} {l : List ClM} {pos : Pos} {tb : WX → TS}
theorem ps_tryMx (es : X.stack = X.env :: X.outer) (ef : X.env.frame = some X.env.locals) (nd : X.N.Nodup) (ei : X.N[i]? = some n) (el : X.env.kindOf n = some .local)
    (hb : ∀ (W : WX) (pn : List (Addr × Obj)) (xe : Value → Shared → Prop), Takes (X.tr pn xe) W → PassesOwn (model X.prog X.w) X.A X.env xe → PSs (X.tr pn xe) body (tb W))
    (hh : HdMx X n (hd :: hs) l) : PS X (.Try body (hd :: hs) [] [] pos) (fun D σ H => tb (wM X.K i D l) D σ H) := by
  refine ⟨fun pins s σ H D I wish => ?_⟩
  have xok := I.ok
  have frame : X.A.frames = some (X.env :: X.outer) := xok.frames.trans (congrArg some es)
  refine wpAny_Try_except (wpAny_mono ((hb (wM X.K i D l) (X.pn ++ pins) (fun er t1 => wpAny (model X.prog X.w) X.A (noteFrame er X.env) (fun _ t2 => wpAny (model X.prog X.w) X.A (setFlight er none) (fun _ t3 =>
    wpAny (model X.prog X.w) X.A (handleBy er X.env (hd :: hs)) (SP X pins D) X.xe t3) X.xe t2) X.xe t1) (fun u s' air => ?_) PassesOwn.looking).run [] s σ H D (I.toTry _) wish) (fun fl s1 sp => ?_) (fun _ _ z => z))
  · obtain ⟨a, B, sI, pins', σ1, H1, cls, d, rfl, J0, nb, up, sky, na, eos, ag, wi⟩ := air
    have J : Inv X pins σ1 H1 sI := J0.ofTry xok
    rw [es] at sky
    show wpAny (model X.prog X.w) X.A (noteFrame (.ref a) X.env) _ _ _
    refine Sky.land Zc.steady frame ef sky fun g3 fly up3 => ?_
    have J3 : Inv X pins σ1 H1 { s' with heap := g3 } := J.landed nb fly.1 (up.trans up3) eos ag
    obtain ⟨o3, v3, at3, z3, dt3⟩ := fly.there
    have nofr : a ∉ frs (X.env :: X.outer) := fun mem => by
      obtain ⟨_, o', e', nf⟩ := fly.2.2.1.mem mem
      rw [at3] at e'
      cases e'
      exact nf _ dt3
    have aL : a ≠ X.env.locals := fun z => nofr (List.mem_filterMap.mpr ⟨X.env, by simp, by rw [ef, z]⟩)
    have aF : a ∉ X.fs := fun mem => by
      obtain ⟨ev, hev, q⟩ := List.mem_filterMap.mp mem
      exact nofr (List.mem_filterMap.mpr ⟨ev, by simp [hev], q⟩)
    have S3 := J3.suite at3 dt3 na aL aF
    have ask : ∀ {x : Str} {c : Value} {np : Pos}, Names X x c → ∀ {Q : Value → Shared → Prop} {E : Value → Shared → Prop}, Q c { s' with heap := g3 } → wpAny (model X.prog X.w) (X.A.mark (some (.ref a))) (eval (.Name x np) X.env) Q E { s' with heap := g3 } := by
      intro x c np nm Q E z
      obtain ⟨gl, dbg, em | ⟨em, ev, nn⟩⟩ := nm
      · exact ld_glob (X := X.suite a ((a, o3) :: (X.pn ++ pins))) S3 gl em z dbg
      · exact ld_blt (X := X.suite a ((a, o3) :: (X.pn ++ pins))) S3 gl em ev z nn dbg
    have typ : PySem.W.Looks (model X.prog X.w) g3 (typeOf (.ref a)) cls := fun _ _ _ _ k z => wpAny_typeOf_ref (k _ _ at3) (by rw [z3.1]; exact z)
    have each : ∀ {hs' : List ExceptHandler} {l' : List ClM}, HdMx X n hs' l' → wM X.K i D l' cls d σ1 H1 → wpAny (model X.prog X.w) X.A (handleBy (.ref a) X.env hs') (SP X pins D) X.xe { s' with heap := g3 } := by
      intro hs' l' hk
      induction hk with
      | nil => exact fun z => z.elim
      | @named x c ts st su np ps hs2 l2 nm ok r ih =>
        rintro ⟨b, eb, yes, no⟩
        refine wpAny_handleBy_cons (codeAny_handlers_test ?_) (by intro z; cases z)
        have met := PySem.W.exm_one (M := model X.prog X.w) (J3.kIn) typ eb
        refine ask nm (met.here ?_)
        cases b with
        | false => exact ih (no rfl)
        | true =>
          refine codeAny_handlers_suite_as (HandSPX.lands_againZ fly fun g4 fly4 up4 => ?_)
          have J4 : Inv X pins σ1 H1 { s' with heap := g4 } := J.landed nb fly4.1 ((up.trans up3).trans up4) eos ag
          obtain ⟨o4, v4, at4, z4, dt4⟩ := fly4.there
          have S4 := J4.suite at4 dt4 na aL aF
          refine store_ok (X := X.suite a ((a, o4) :: (X.pn ++ pins))) (v := .ref a) S4 nd ei (.inl el) rfl (fun s5 S5 => ?_) (.inr el)
          refine wpAny_mono ((ok a o4 cls d (X.pn ++ pins) z4 ⟨_, dt4⟩).run [] s5 _ H1 _ S5 (yes rfl a na)) (fun fl s6 sp => ?_) (fun _ _ z => False.elim z)
          have over : ∀ {σ6 : L2.St} {H6 : Hp} {Q : Shared → Prop}, Inv (X.suite a ((a, o4) :: (X.pn ++ pins))) [] σ6 H6 s6 → (∀ s7, Inv X pins (σ6.set i none) H6 s7 → Q s7) →
              wpAny (model X.prog X.w) X.A (do bindName X.env n .none; unbindBehindTheSuite X.env n ps) (fun _ s7 => Q s7) X.xe s6 := fun S6 hq => gone_ok (S6.unsuite xok) nd ei el hq
          cases fl with
          | next =>
            obtain ⟨_, _, S6, z⟩ := sp
            exact over S6 fun _ J7 => ⟨_, _, J7, z⟩
          | brk =>
            obtain ⟨_, _, S6, z⟩ := sp
            exact over S6 fun _ J7 => ⟨_, _, J7, z⟩
          | cont =>
            obtain ⟨_, _, S6, z⟩ := sp
            exact over S6 fun _ J7 => ⟨_, _, J7, z⟩
          | ret u =>
            obtain ⟨_, _, _, S6, rr, z⟩ := sp
            exact over S6 fun _ J7 => ⟨_, _, _, J7, rr, z⟩
      | @plain x c ts st su np ps hs2 l2 nm ok r ih =>
        rintro ⟨b, eb, yes, no⟩
        refine wpAny_handleBy_cons (codeAny_handlers_test ?_) (by intro z; cases z)
        have met := PySem.W.exm_one (M := model X.prog X.w) (J3.kIn) typ eb
        refine ask nm (met.here ?_)
        cases b with
        | false => exact ih (no rfl)
        | true =>
          refine codeAny_handlers_suite (HandSPX.lands_againZ fly fun g4 fly4 up4 => ?_)
          have J4 : Inv X pins σ1 H1 { s' with heap := g4 } := J.landed nb fly4.1 ((up.trans up3).trans up4) eos ag
          obtain ⟨o4, v4, at4, z4, dt4⟩ := fly4.there
          have S4 := J4.suite at4 dt4 na aL aF
          refine wpAny_mono ((ok a o4 cls d (X.pn ++ pins) z4 ⟨_, dt4⟩).run [] _ _ H1 _ S4 (yes rfl a na)) (fun fl s6 sp => ?_) (fun _ _ z => False.elim z)
          cases fl with
          | next =>
            obtain ⟨_, _, S6, z⟩ := sp
            exact ⟨_, _, S6.unsuite xok, z⟩
          | brk =>
            obtain ⟨_, _, S6, z⟩ := sp
            exact ⟨_, _, S6.unsuite xok, z⟩
          | cont =>
            obtain ⟨_, _, S6, z⟩ := sp
            exact ⟨_, _, S6.unsuite xok, z⟩
          | ret u =>
            obtain ⟨_, _, _, S6, rr, z⟩ := sp
            exact ⟨_, _, _, S6.unsuite xok, rr, z⟩
    exact each hh wi
  · cases fl with
    | next =>
      obtain ⟨_, _, K1, z⟩ := sp
      exact wpAny_execs_nil ⟨_, _, K1.ofTry xok, z⟩
    | brk =>
      obtain ⟨_, _, K1, z⟩ := sp
      exact ⟨_, _, K1.ofTry xok, z⟩
    | cont =>
      obtain ⟨_, _, K1, z⟩ := sp
      exact ⟨_, _, K1.ofTry xok, z⟩
    | ret u =>
      obtain ⟨_, _, _, K1, rr, z⟩ := sp
      exact ⟨_, _, _, K1.ofTry xok, rr, z⟩
end
/-! ### suites -/
/-- return z -/
def tSuC (z : Str) (a : Addr) (cls : Value) (d : Option Addr) : TS := tRet (tC (.str z))
/-- return z + repr(n.f) -/
def tSuR (K : PySem.W.Frag) (i : Nat) (C : Addr) (f z : Str) (a : Addr) (cls : Value) (d : Option Addr) : TS := fun E σ H => cls = .ref C ∧ ∃ (dd : Addr) (fs : List (Str × V)) (v : V) (w : Wd) (O : Av) (x : D) (s : Str), d = some dd ∧ σ[i]? = some (some (.ref a)) ∧ H dd = some (.xd fs) ∧ fs.lookup f = some v ∧ w.K = K ∧ Rep w O H x v ∧ repTxt z x = some s ∧ E.rt (.str s) H
section
variable {X : Cx} {i : Nat} {C a : Addr} {oe : Obj} {cls : Value} {d : Option Addr} {pn : List (Addr × Obj)} {f z n : Str} {q0 q1 q2 q3 q4 q5 q6 : Pos} {j : Nat}
theorem suR_ok (hs : (X.K.lookup sysModules).isSome = true) (hgu : X.A.guards = some []) (hu : X.A.units + 64 < cLine) (T : XfC X.K C) (hno : PySem.W.findIn X.K (.ref C) f = some none) (hz : Zc cls d oe) (hf : ∃ vs, oe.data = .fields vs) (hgr : Gl X "repr") (hmr : X.mg "repr" = none) (hi : X.N[i]? = some n) (hv : Vis X.env.scope n) (hn1 : (n == ("__debug__" : Str)) = false) (hn2 : (n == ("__classdict__" : Str)) = false)
    (hab : attributeBase (.Name n q1) f X.env (eval (.Name n q1) X.env) = eval (.Name n q1) X.env) (he : starEach [Expr.Attribute (.Name n q1) f q6] X.env = (false, eval (.Attribute (.Name n q1) f q6) X.env) :: starEach [] X.env) : PSs (X.suite a ((a, oe) :: pn)) [.Return (some (.BinOp (.Constant (.str z) j q0) .Add (.Call (.Name "repr" q2) [.Attribute (.Name n q1) f q6] [] q3) q4)) q5] (tSuR X.K i C f z a cls d) := by
  refine ⟨fun pins s σ H E I ⟨ec, dd, fs, u, w, O, y, t, ed, h0, h1, h2, hK, h3, h4, h⟩ => ?_⟩
  subst ec
  subst ed
  have px : PE (X.suite a ((a, oe) :: pn)) (.Attribute (.Name n q1) f q6) (tXf a (.ref C) (some dd) C f (tVar i)) := pe_xf T hno hz hf (pe_var (X := X.suite a ((a, oe) :: pn)) hi hv hn1 hn2) hab
  have pr : PE (X.suite a ((a, oe) :: pn)) (.Call (.Name "repr" q2) [.Attribute (.Name n q1) f q6] [] q3) (tCB (rReprX X.K) (tCons (tXf a (.ref C) (some dd) C f (tVar i)) tNil)) := pe_callB (X := X.suite a ((a, oe) :: pn)) (call_reprX (X := X.suite a ((a, oe) :: pn)) hs hgu hu) hgr hmr (by decide +kernel) (pa_cons px pa_nil he) (by decide) (by decide) he (by rfl)
  refine (pss_one (ps_ret (pos := q5) (pe_op (pos := q4) op_add_str (pe_str (X := X.suite a ((a, oe) :: pn)) (pos := q0) (j := j)) pr))).run pins s σ H E I ?_
  unfold repTxt reprX at h4
  cases e1 : pyX y with
  | none => rw [e1] at h4; cases h4
  | some p =>
    rw [e1] at h4
    simp only [Option.bind_some] at h4
    split at h4
    · rename_i s0 e2
      split at h4
      · rename_i hl
        cases h4
        split at e2
        · rename_i hp
          cases e2
          exact ⟨.ref a, h0, rfl, rfl, dd, fs, u, rfl, h1, h2, w, O, y, p, u, hK, rfl, h3, e1, hp.1, hp.2.1, hp.2.2, z, p.shown, rfl, rfl, hl, h⟩
        · cases e2
      · cases h4
    · cases h4
end
end PM

/-! f(lambda: e), where f tries it and tells, in words, which error came, and what some of them keep -/
namespace PM
open PySem PySem.Spec PyProof.Rows L2 LamX
/-- a clause: its class, the field that is shown, if any, the text -/
structure CD where
  C : Addr
  f : Option Str
  z : Str
def hitC (K : PySem.W.Frag) (q : CD) (cls : Value) (d : Option Addr) (H : Hp) (Q : VK) : Prop := match q.f with
  | none => Q (.str q.z) H
  | some f => cls = .ref q.C ∧ ∃ (dd : Addr) (fs : List (Str × V)) (v : V) (w : Wd) (O : Av) (x : D) (s : Str), d = some dd ∧ H dd = some (.xd fs) ∧ fs.lookup f = some v ∧ w.K = K ∧ Rep w O H x v ∧ repTxt q.z x = some s ∧ Q (.str s) H
def eC (K : PySem.W.Frag) (Q : VK) : List CD → XK
  | [] => fun _ _ _ => False
  | q :: r => fun cls d H => ∃ b, PySem.W.exmOne K cls (.ref q.C) = some b ∧ (b = true → hitC K q cls d H Q) ∧ (b = false → eC K Q r cls d H)
def TToldX (K : PySem.W.Frag) (cs : List CD) (last : Option Str) : (XK → Hp → VK → Prop) → Hp → VK → Prop := fun tl H Q =>
  tl (eC K Q cs) H (match last with
    | none => Q
    | some z => fun _ H' => Q (.str z) H')
/-- the clauses as written -/
inductive HdC (K : PySem.W.Frag) (mg : Str → Option Value) (N : List Str) (sg : Scope) (n : Str) : List ExceptHandler → List CD → Prop
  | nil : HdC K mg N sg n [] []
  | plain {e z : Str} {C : Addr} {j : Nat} {p4 p5 p6 p7 : Pos} {hs : List ExceptHandler} {cs : List CD} (hge : sg.names.lookup e = some .globalImplicit) (hme : mg e = some (.ref C)) (r : HdC K mg N sg n hs cs) (hde : (e == ("__debug__" : Str)) = false := by decide) :
      HdC K mg N sg n (.ExceptHandler (some (.Name e p4)) none [.Return (some (.Constant (.str z) j p5)) p6] p7 :: hs) (⟨C, none, z⟩ :: cs)
  | named {e z f : Str} {C : Addr} {j : Nat} {p4 p7 q0 q1 q2 q3 q4 q5 q6 : Pos} {hs : List ExceptHandler} {cs : List CD} (hge : sg.names.lookup e = some .globalImplicit) (hme : mg e = some (.ref C)) (K1 : ClK K C f) (hgr : sg.names.lookup ("repr" : Str) = some .globalImplicit) (hmr : mg "repr" = none)
      (hab : ∀ (x : Str) (L g : Addr) (cdg : Value), attributeBase (.Name n q1) f (envOfC x sg L g cdg) (eval (.Name n q1) (envOfC x sg L g cdg)) = eval (.Name n q1) (envOfC x sg L g cdg))
      (hst : ∀ (x : Str) (L g : Addr) (cdg : Value), starEach [Expr.Attribute (.Name n q1) f q6] (envOfC x sg L g cdg) = (false, eval (.Attribute (.Name n q1) f q6) (envOfC x sg L g cdg)) :: starEach [] (envOfC x sg L g cdg))
      (r : HdC K mg N sg n hs cs) (hde : (e == ("__debug__" : Str)) = false := by decide) :
      HdC K mg N sg n (.ExceptHandler (some (.Name e p4)) (some n) [.Return (some (.BinOp (.Constant (.str z) j q0) .Add (.Call (.Name "repr" q2) [.Attribute (.Name n q1) f q6] [] q3) q4)) q5] p7 :: hs) (⟨C, some f, z⟩ :: cs)
def clM (K : PySem.W.Frag) (i : Nat) (q : CD) : ClM := match q.f with
  | none => (.ref q.C, false, tSuC q.z)
  | some f => (.ref q.C, true, tSuR K i q.C f q.z)
theorem clM_none {K : PySem.W.Frag} {i : Nat} {C : Addr} {z : Str} : clM K i ⟨C, none, z⟩ = (.ref C, false, tSuC z) := rfl
theorem clM_some {K : PySem.W.Frag} {i : Nat} {C : Addr} {f z : Str} : clM K i ⟨C, some f, z⟩ = (.ref C, true, tSuR K i C f z) := rfl
/-- what the clauses wish, told without slots -/
theorem wM_of {K : PySem.W.Frag} {i : Nat} {D : Ends} {Q : VK} (hQ : ∀ v H, Q v H → D.rt v H) {cls : Value} {d : Option Addr} {σ : L2.St} {H : Hp} (hi : i < σ.length) : ∀ {cs : List CD}, eC K Q cs cls d H → wM K i D (cs.map (clM K i)) cls d σ H
  | [], h => h.elim
  | ⟨C, none, z⟩ :: cs, ⟨b, e, y, no⟩ => by
    rw [List.map_cons, clM_none]
    exact ⟨b, e, fun hb a _ => hQ _ _ (y hb), fun hb => wM_of hQ hi (no hb)⟩
  | ⟨C, some f, z⟩ :: cs, ⟨b, e, y, no⟩ => by
    rw [List.map_cons, clM_some]
    refine ⟨b, e, fun hb a _ => ?_, fun hb => wM_of hQ hi (no hb)⟩
    obtain ⟨e1, dd, fs, v, w, O, x, s, e2, e3, e4, e5, e6, e7, e8⟩ := y hb
    exact ⟨e1, dd, fs, v, w, O, x, s, e2, by rw [List.getElem?_set_self hi], e3, e4, e5, e6, e7, hQ _ _ e8⟩
section
variable {X : Cx} {Ng : List Str} {x a n q z : Str} {sg : Scope} {g : Addr} {cdg : Value} {i j k : Nat} {hd : ExceptHandler} {hds : List ExceptHandler} {cs : List CD} {p1 p2 p3 p5 p6 p8 : Pos}
theorem hdM_of {s : Shared} {H : Hp} (hs : (X.K.lookup sysModules).isSome = true) (hgu : X.A.guards = some []) (hr : Room (k + 2) X.A) (ei : Ng[i]? = some n) (en : Vis sg n) (h6 : (n == ("__debug__" : Str)) = false) (h7 : (n == ("__classdict__" : Str)) = false) :
    ∀ {hds : List ExceptHandler} {cs : List CD}, HdC X.K X.mg Ng sg n hds cs → HdMx (cxOf C8.CX0 X.prog X.w X.K X.mg X.base Ng x sg g cdg X.A X.stack s H C8.E0).nox n hds (cs.map (clM X.K i)) := by
  intro hds cs h
  induction h with
  | nil => exact .nil
  | @plain e z C j p4 p5 p6 p7 hs cs hge hme r hde ih =>
    rw [List.map_cons, clM_none]
    refine .plain ⟨hge, hde, .inl hme⟩ (fun a oe cls d pn hz hf => ?_) ih
    exact pss_one (ps_ret pe_str)
  | @named e z f C j p4 p7 q0 q1 q2 q3 q4 q5 q6 hs cs hge hme K1 hgr hmr hab hst r hde ih =>
    rw [List.map_cons, clM_some]
    refine .named ⟨hge, hde, .inl hme⟩ (fun a oe cls d pn hz hf => ?_) ih
    exact suR_ok (X := (cxOf C8.CX0 X.prog X.w X.K X.mg X.base Ng x sg g cdg X.A X.stack s H C8.E0).nox) (by assumption) hgu (hr.deeper _).units K1.xf K1.no hz hf hgr hmr ei en h6 h7 (hab _ _ _ _) (hst _ _ _ _)
theorem toldX_gives (hs : (X.K.lookup sysModules).isSome = true) (hgu : X.A.guards = some []) (hr : Room (k + 2) X.A) (hh : HdC X.K X.mg Ng sg n (hd :: hds) cs) (nd : Ng.Nodup) (ei : Ng[i]? = some n) (en : sg.names.lookup n = some .local)
    (el : ∀ L, (envOfC x sg L g cdg).kindOf n = some .local) (h0 : ∀ f : Addr, (L2.start Ng [V.ref f])[0]? = some (some (V.ref f)))
    (hsw : ∀ L, swapsWith (.Call (.Name a p1) [] [] p2) none p3.line (envOfC x sg L g cdg) = pure false)
    (h6 : (n == ("__debug__" : Str)) = false) (h7 : (n == ("__classdict__" : Str)) = false) :
    GivesTo X Ng x sg g cdg [.Try [.Expr (.Call (.Name a p1) [] [] p2) p3] (hd :: hds) [] [] p8, .Return (some (.Constant (.str z) j p5)) p6] a q (TToldX X.K cs (some z)) := by
  intro f' c' s H Q tl act hc h
  have ty := ps_tryMx (X := (cxOf C8.CX0 X.prog X.w X.K X.mg X.base Ng x sg g cdg X.A X.stack s H C8.E0).nox) (i := i) (n := n) (pos := p8) (body := [.Expr (.Call (.Name a p1) [] [] p2) p3])
    (tb := fun W D σ H => ∃ Ech : XK, (∀ cls d (σ' : L2.St) H', σ'.length = Ng.length → Ech cls d H' → W cls d σ' H') ∧ σ[0]? = some (some (.ref f')) ∧ H c' = some (CodeO c' q) ∧ tl Ech H (fun _ H' => D.nx σ H'))
    rfl rfl nd ei (el _) (fun W pn xe tk _ => ?_) (hdM_of (s := s) (H := H) hs hgu hr ei (.inl en) h6 h7 hh)
  · refine ⟨_, pss_cons ty (pss_one (ps_ret (pos := p6) (pe_str (pos := p5) (j := j) (x := z)))), ?_⟩
    refine ⟨_, fun cls d σ' H' hl z => ?_, h0 f', hc, h⟩
    have hi : i < σ'.length := by
      rw [hl]
      exact lt_of_get ei
    exact wM_of (Q := Q) (fun _ _ y => y) hi z
  · refine ⟨fun pins s' σ H' D I ⟨Ech, hW, h1, h2, h3⟩ => ?_⟩
    have hp := act (fun cls d σ H => σ.length = Ng.length → W cls d σ H) pn xe Ech p1 p2 (takes_len tk) (fun cls d σ' H' z hl => hW cls d σ' H' hl z)
    exact (pss_one (ps_expr (pos := p3) hp (hsw _))).run pins s' σ H' D I ⟨h1, h2, h3⟩
end
/-! ### the meaning -/
/-- the word of an error -/
def hitX : List (Nat × Option Str × Str) → Nat → List (Str × D) → Option Str
  | [], _, _ => none
  | (c, none, z) :: r, k, fs => if k = c then some z else hitX r k fs
  | (c, some f, z) :: r, k, fs => if k = c then (match fs with
    | [(g, d)] => if g = f then repTxt z d else none
    | _ => none) else hitX r k fs
def mToldX (L : List Nat) (cs : List (Nat × Option Str × Str)) (last : Option Str) (m : ME) : ME := fun ρ => match m ρ with
  | .ok x ρ1 => (match last with
    | none => .ok x ρ1
    | some z => .ok (.str z, false) ρ1)
  | .exc (.own k fs) ρ1 => if k ∈ L then (match hitX cs k fs with
    | some s => .ok (.str s, false) ρ1
    | none => .stuck) else .stuck
  | _ => .stuck
def cdOf (w : Wd) (q : Nat × Option Str × Str) : CD := ⟨w.cl q.1, q.2.1, q.2.2⟩
theorem hit_eC {w : Wd} {L : List Nat} (hm : ∀ a ∈ L, ∀ b ∈ L, PySem.W.exmOne w.K (.ref (w.cl a)) (.ref (w.cl b)) = some (a == b)) {O : Av} {H : Hp} {Q : VK} {k : Nat} {fs : List (Str × D)} {cls : Value} {d : Option Addr} (hk : k ∈ L) (xa : XcAt w O H cls d (.own k fs)) :
    ∀ {cs : List (Nat × Option Str × Str)} {s : Str}, (∀ q ∈ cs, q.1 ∈ L) → hitX cs k fs = some s → Q (.str s) H → eC w.K Q (cs.map (cdOf w)) cls d H
  | [], s, _, e, _ => by cases e
  | (c, o, z) :: cs, s, hc, e, hq => by
    have ecl : cls = .ref (w.cl k) := by
      cases fs with
      | nil => exact xa.1
      | cons _ _ => exact xa.1
    have em := hm k hk c (hc _ List.mem_cons_self)
    rw [List.map_cons]
    refine ⟨k == c, by rw [ecl]; exact em, fun hb => ?_, fun hb => ?_⟩
    · have hkc : k = c := by simpa using hb
      subst hkc
      cases o with
      | none =>
        simp only [hitX, if_true] at e
        cases e
        exact hq
      | some f =>
        simp only [hitX, if_true] at e
        split at e
        · rename_i g dd
          split at e
          · rename_i hgf
            subst hgf
            obtain ⟨_, a, vs, ed, na, hxa, rl⟩ := xa
            simp only [List.map_cons, List.map_nil, RepL] at rl
            obtain ⟨vv, _, rfl, rr, rfl⟩ := rl
            exact ⟨ecl, a, _, vv, w, O, dd, s, ed, hxa, by simp [List.lookup], rfl, rr, e, hq⟩
          · cases e
        · cases e
    · have hkc : k ≠ c := by simpa using hb
      refine hit_eC hm hk xa (fun q h => hc q (List.mem_cons_of_mem _ h)) ?_ hq
      cases o with
      | none => simpa only [hitX, if_neg hkc] using e
      | some f => simpa only [hitX, if_neg hkc] using e
theorem sim_toldX {w : Wd} {W : WX} {L : List Nat} {cs : List (Nat × Option Str × Str)} {last : Option Str} {q : Str} {P : Addr} {m : ME} (hm : ∀ a ∈ L, ∀ b ∈ L, PySem.W.exmOne w.K (.ref (w.cl a)) (.ref (w.cl b)) = some (a == b)) (hc : ∀ q ∈ cs, q.1 ∈ L) (hT : (P, q) ∈ w.T) (hu : ∀ p ∈ w.T, p.1 = P → p.2 = q) :
    Sim w W (tLamP P q (TToldX w.K (cs.map (cdOf w)) last) fun E => teOf w (WF E) m) (mToldX L cs last m) := fun F O ρ σ H Q hw R hh => by
  subst hw
  obtain ⟨ps, t1, t2, t3⟩ := (R.tab _ hT).2
  have tO := R.tabO
  refine ⟨ps, t1, ⟨t2, fun pos cv e => (t3 pos cv e).imp fun c z => ⟨z.1, z.2.2⟩⟩, fun H1 ps1 k1 k2 k3 k4 => ?_⟩
  have dm : ∀ b, H b ≠ none → H1 b ≠ none := fun b z => by
    cases e : H b with
    | none => exact absurd e z
    | some o =>
      by_cases hb : b = P
      · rw [hb, k2]; simp
      · rw [k1 b o hb e]; simp
  have st : Step O H O H1 := ⟨fun _ z => .inl z, fun b o n e => k1 b o (fun z => n (z ▸ (tO _ hT).1)) e, dm⟩
  have R1 : Rel F O ρ σ H1 := by
    refine R.stepT st (fun _ z => z) (fun b z => dm b (R.dom b z)) (fun b o n e => k1 b o (fun z => n _ hT z.symm) e) fun p hp => ?_
    by_cases hb : p.1 = P
    · rw [hu p hp hb, hb]
      refine ⟨ps1, k2, k3, fun pos cv e => ?_⟩
      obtain ⟨c0, e1, e2, e3⟩ := k4 pos cv e
      refine ⟨c0, e1, ?_, e2⟩
      rcases e3 with e3 | e3
      · obtain ⟨c9, z1, z2, _⟩ := t3 pos cv e3
        rw [e1] at z1
        cases z1
        exact z2
      · exact R.fresh e3
    · have tz := (R.tab p hp).2
      obtain ⟨qs, y⟩ := tz.some
      exact tz.step st (by rw [y]; exact k1 _ _ hb y)
  show teOf F.w _ m σ H1 _
  refine ⟨F, O, ρ, rfl, R1, ?_⟩
  unfold mToldX at hh
  cases q0 : m ρ with
  | stuck => rw [q0] at hh; exact hh.elim
  | ok x ρ1 =>
    rw [q0] at hh
    cases last with
    | none => exact fun O' H' b s' R' ra => hh O' H' b (st.trans s') R' (VlAt.later st ra)
    | some z => exact fun O' H' b s' R' ra => hh O' H' (.str z) (st.trans s') R' (by show Rep F.w O' H' (.str z) (.str z); simp only [Rep])
  | exc xc ρ1 =>
    rw [q0] at hh
    cases xc with
    | ty nn => exact hh.elim
    | own k fs =>
      have h2 : Hold F W O σ H (RV F σ H) Q (if k ∈ L then (match hitX cs k fs with
        | some s => .ok (.str s, false) ρ1
        | none => .stuck) else .stuck) := hh
      clear hh q0
      by_cases hk : k ∈ L
      · rw [if_pos hk] at h2
        cases e : hitX cs k fs with
        | none => rw [e] at h2; exact h2.elim
        | some s =>
          rw [e] at h2
          intro O' H' cls dd s' R' xa
          exact hit_eC hm hk xa hc e (h2 O' H' (.str s) (st.trans s') R' (by show Rep F.w O' H' (.str s) (.str s); simp only [Rep]))
      · rw [if_neg hk] at h2
        exact h2.elim
section
variable {w : Wd} {W : WX} {X : Cx} {x a n z : Str} {g cc P : Addr} {i j k : Nat} {L : List Nat} {cs : List (Nat × Option Str × Str)} {fd : FuncData} {st : Stmt} {Ng : List Str} {prm : Arguments} {ex : Expr} {sc : Scope} {m : ME} {p lp pos : Pos} {p1 p2 p3 p5 p6 p8 : Pos} {hd : ExceptHandler} {hds : List ExceptHandler}
/-- f(lambda: e), f: try: a() / except .. / return z -/
theorem pm_toldX (hK : w.K = X.K) (F : Fun X.K x x st g fd) (mgx : X.mg x = some (.ref g)) (gl : Gl X x) (bd : Binds X.K fd [a] []) (hst : defBody st = [.Try [.Expr (.Call (.Name a p1) [] [] p2) p3] (hd :: hds) [] [] p8, .Return (some (.Constant (.str z) j p5)) p6])
    (Sg : FnScope Ng [a] (defScope st)) (n0 : Ng[0]? = some a) (va : Vis (defScope st) a) (hs : (w.K.lookup sysModules).isSome = true) (hgu : X.A.guards = some []) (hh : HdC w.K X.mg Ng (defScope st) n (hd :: hds) (cs.map (cdOf w)))
    (hm : ∀ a ∈ L, ∀ b ∈ L, PySem.W.exmOne w.K (.ref (w.cl a)) (.ref (w.cl b)) = some (a == b)) (hc : ∀ q ∈ cs, q.1 ∈ L) (ei : Ng[i]? = some n) (en : (defScope st).names.lookup n = some .local)
    (el : ∀ L cdg, (envOfC x (defScope st) L g cdg).kindOf n = some .local) (hsw : ∀ L cdg, swapsWith (.Call (.Name a p1) [] [] p2) none p3.line (envOfC x (defScope st) L g cdg) = pure false)
    (h0 : ∀ f : Addr, (L2.start Ng [V.ref f])[0]? = some (some (V.ref f)))
    (B : TabB X.base X.mg cc P) (code : X.env.code = .ref cc) (hT : (P, X.env.qual ++ ("<lambda>" : Str)) ∈ w.T) (hu : ∀ p ∈ w.T, p.1 = P → p.2 = X.env.qual ++ ("<lambda>" : Str)) (rm : Room (k + 2) X.A) (Ls : LamS X.env.scope sc)
    (nd : defaultsOf prm X.env = ([], [])) (lb : ∀ (q : Str) (cl : List (Str × Addr)) (pm cv ctv : Value), bindArgs (PySem.W.kla_fn "<lambda>" q prm ex sc cl pm cv ctv) ⟨[], []⟩ = pure [])
    (inner : ∀ (A : Around) (outer : List Env) (s : Shared) (H : Hp) (E : XK) (f c' : Addr), Room k (A.deeper (lamEnv X sc s.heap.objs.size f c')) → Takes (lamCx X A outer s H E sc f c') (WF E) → PM (lamCx X A outer s H E sc f c') w (WF E) ex m)
    (d1 : (x == ("__debug__" : Str)) = false := by decide) (d2 : (a == ("__debug__" : Str)) = false := by decide) (d3 : (a == ("__classdict__" : Str)) = false := by decide) (d6 : (n == ("__debug__" : Str)) = false := by decide) (d7 : (n == ("__classdict__" : Str)) = false := by decide) :
    PM X w W (.Call (.Name x p) [.Lambda prm ex sc lp] [] pos) (mToldX L cs (some z) m) := by
  obtain ⟨oc, od, kV, doc, pm, an, cdv, ct, osl, rfl, lk, hcd⟩ := F.ex
  refine ⟨_, pe_lamP (TT := TToldX w.K (cs.map (cdOf w)) (some z)) (t := fun E => teOf w (WF E) m) (bg := defBody st) (Ng := Ng) gl mgx F.kp lk hcd bd Sg n0 va ?_ B code rm Ls nd lb (fun A outer s H E f c' hr => (inner A outer s H E f c' hr (takes_of rfl rfl rfl rfl)).pe) d1 d2 d3, sim_toldX hm hc hT hu⟩
  rw [hst, hK]
  exact toldX_gives (k := k) (hK ▸ hs) hgu rm (hK ▸ hh) Sg.nd ei en (fun L => el L _) h0 (fun L => hsw L _) d6 d7
end
end PM

/-! sum(list of numbers), x.split('..') -/
namespace PM
open PySem PySem.Spec PyProof.Rows L2
section
variable {w : Wd} {W : WX} {X : Cx} {p pos apos : Pos} {o e : Expr} {m me : ME} {mr : MA}
def sumLD : D → Option Vl
  | .lst ds => (intsD ds).map fun zs => (.int zs.sum, false)
  | _ => none
theorem pm_sumL (hK : w.K = X.K) (hg : Gl X "sum") (hm : X.mg "sum" = none) (ha : PMA X w W [e] mr) (hc : X.calm = true := by rfl) (he : starEach [e] X.env = (false, eval e X.env) :: starEach [] X.env := by rfl) : PM X w W (.Call (.Name "sum" p) [e] [] pos) (mCall (one1 sumLD) mr) :=
  pm_callB (cr_sum hc) (fun O H xs z vs Q dm ee rs k => by
    obtain ⟨x, rfl, ez⟩ := one1_some ee
    clear ee
    obtain ⟨v, rfl, hv⟩ := repl1 rs
    unfold sumLD at ez
    split at ez
    · rename_i ds
      cases q : intsD ds with
      | none => rw [q] at ez; cases ez
      | some zs =>
        rw [q] at ez
        cases ez
        simp only [Rep] at hv
        obtain ⟨a, us, rfl, h1, h2⟩ := hv
        rw [intsD_rep q h2] at h1
        exact ⟨a, zs, rfl, hK ▸ sl_of_rep h1, k.int⟩
    · cases ez) hg hm (by decide +kernel) ha (by decide) (by decide) he
def splitD (x y : D) : Option Vl := match x, y with
  | .str a, .str b => if (b.length == 0) = false ∧ a.length + 2 ≤ 16777216 then some (.lst ((Txt.split a b).map D.str), true) else none
  | _, _ => none
theorem repl_strs {O : Av} {H : Hp} : ∀ l : List Str, RepL w O H (l.map D.str) (l.map V.str)
  | [] => by simp only [List.map_nil, RepL]
  | x :: l => by simp only [List.map_cons, RepL, Rep]; exact ⟨_, _, rfl, rfl, repl_strs l⟩
def mSplit (m me : ME) : ME := fun ρ => (m ρ).bind fun x ρ1 => match x.1 with
  | .str a => (me ρ1).bind fun y ρ2 => lift (splitD (.str a) y.1) ρ2
  | _ => .stuck
theorem pm_split (ho : PM X w W o m) (he : PM X w W e me) (hs : starEach [e] X.env = [(false, eval e X.env)] := by rfl) (hbase : attributeBase o "split" X.env (eval o X.env) = eval o X.env := by rfl) (hline : (apos.endLine == pos.line) = true := by rfl) : PM X w W (.Call (.Attribute o "split" apos) [e] [] pos) (mSplit m me) := by
  obtain ⟨te, pe, se⟩ := ho
  obtain ⟨te2, pe2, se2⟩ := he
  refine ⟨_, pe_splitAny pe pe2 hs hbase hline, fun F O ρ σ H Q hw R hh => ?_⟩
  subst hw
  refine se.bind rfl R hh fun x v ρ1 O1 H1 st1 R1 rx h1 => ?_
  split at h1
  · rename_i a ea
    rw [ea] at rx
    simp only [Rep] at rx
    subst rx
    refine ⟨⟨a, rfl⟩, ?_⟩
    refine se2.bind rfl R1 (h1.laterV st1) fun y u ρ2 O2 H2 st2 R2 ry h2 => ?_
    cases e : splitD (.str a) y.1 with
    | none => rw [e] at h2; exact h2.elim
    | some z =>
      rw [e] at h2
      unfold splitD at e
      split at e
      · rename_i b1 b2 e1 e2
        cases e1
        split at e
        · rename_i hl
          cases e
          rw [e2] at ry
          simp only [Rep] at ry
          subst ry
          refine .inl ⟨a, b2, rfl, rfl, hl.1, by rw [sizeLine_eq]; exact hl.2, fun p hp => ?_⟩
          exact (h2.go st2 R2).newL (repl_strs _) hp
        · cases e
      · cases e
  · exact h1.elim
end
end PM

namespace PM.G
open PySem PySem.Spec L2 PM
def ans_str : Ty → Option Bool
  | .b "NoneType" => some false
  | .b "bool" => some false
  | .b "int" => some false
  | .b "str" => some true
  | .b "tuple" => some false
  | .b "list" => some false
  | .b "dict" => some false
  | .o 0 => some false
  | _ => none
def ans_tuple : Ty → Option Bool
  | .b "NoneType" => some false
  | .b "bool" => some false
  | .b "int" => some false
  | .b "str" => some false
  | .b "tuple" => some true
  | .b "list" => some false
  | .b "dict" => some false
  | .o 0 => some false
  | _ => none
abbrev excL : List Nat := [1, 2]
abbrev xnL : List (Nat × PySem.Str) := [(1, "ParseError"), (2, "InvalidSaying")]
abbrev tc_l_word : List (Nat × Option PySem.Str × PySem.Str) := [(1, some "number", "parse "), (2, none, "saying")]
def m_l_dice : MS :=
    (mSeq (mAsg 2 (mIf (mTest (mOp2 ltI (mVar 1) (mCall (one1 lenD) (mCons (mVar 0) mNil)))) (mCall (one1 intD) (mCons (mOp2 ixD (mVar 0) (mVar 1)) mNil)) (mOp2 addD (mOp2 mulD (mC (.int 61)) (mVar 1)) (mC (.int 17)))))
    (mSeq (mAsg 3 (mOp2 modD (mCall (two1 maxD) (mCons (mC (.int 0)) (mCons (mOp2 subD (mCall (one1 absD) (mCons (mVar 2) mNil)) (mOp2 powD (mC (.int 10)) (mC (.int 16)))) mNil))) (mOp2 mulD (mOp2 powD (mC (.int 10)) (mC (.int 60))) (mOp2 powD (mC (.int 10)) (mC (.int 60))))))
    (mRet (mLst (mCons (mVar 3) (mCons (mOp2 addD (mOp2 addD (mOp2 addD (mOp2 mulD (mOp2 modD (mCall (one1 absD) (mCons (mVar 2) mNil)) (mC (.int 1152921504606846869))) (mC (.int 43))) (mOp2 mulD (mC (.int 811)) (mVar 1))) (mOp2 mulD (mC (.int 29)) (mCall (one1 intD) (mCons (mOp2 ltI (mVar 2) (mC (.int 0))) mNil)))) (mC (.int 5))) (mCons (mC (.int 0)) mNil)))))))
def fn_l_dice : Fn := noX (fnSem 4 2 m_l_dice)
def m_l_roll : MS :=
    (mSeq (mIfS (mTest (mOp2 gtI (mItemO 0 (mC (.int 0))) (mC (.int 0)))) (mSeq (mAsg 4 (mOp2 modD (mCall (one1 intD) (mCons (mItemO 0 (mC (.int 0))) mNil)) (mVar 1)))
    (mSeq (mSetItem 0 (mC (.int 0)) (mOp2 divD (mItemO 0 (mC (.int 0))) (mVar 1)))
    (mRet (mVar 4)))) mNext)
    (mSeq (mSetItem 0 (mC (.int 2)) (mOp2 addD (mItemO 0 (mC (.int 2))) (mC (.int 1))))
    (mSeq (mAsg 2 (mOp2 modD (mCall (one1 intD) (mCons (mOp2 addD (mItemO 0 (mC (.int 1))) (mOp2 mulD (mC (.int 49979687)) (mItemO 0 (mC (.int 2))))) mNil)) (mC (.int 2305843009213693669))))
    (mSeq (mAsg 3 (mOp2 addD (mOp2 mulD (mOp2 modD (mCall (one1 intD) (mCons (mOp2 addD (mOp2 mulD (mVar 2) (mVar 2)) (mOp2 mulD (mC (.int 89)) (mItemO 0 (mC (.int 2))))) mNil)) (mC (.int 2305843009213693907))) (mC (.int 7368791))) (mVar 2)))
    (mRet (mOp2 modD (mCall (one1 intD) (mCons (mOp2 divD (mVar 3) (mC (.int 65536))) mNil)) (mVar 1)))))))
def fn_l_roll : Fn := noX (fnSem 5 2 m_l_roll)
def m_l_pick : MS :=
    (mRet (mOp2 ixD (mVar 1) (mCallD fn_l_roll 0 (mCons (mCall (one1 lenD) (mCons (mVar 1) mNil)) mNil))))
def fn_l_pick : Fn := noX (fnSem 2 2 m_l_pick)
def m_l_full (fn_l_full : Nat → Fn) (n : Nat) : MS :=
    (mSeq (mIfS (mTest (mOp2 eqD (mVar 0) (mC (.int 1)))) (mRet (mVar 1)) mNext)
    (mRet (mTup (mCons (mC (.str "and")) (mCons (mCallV (fn_l_full n) (mCons (mOp2 subD (mVar 0) (mC (.int 1))) (mCons (mVar 1) mNil))) (mCons (mCallV (fn_l_full n) (mCons (mOp2 subD (mVar 0) (mC (.int 1))) (mCons (mVar 1) mNil))) mNil))))))
def fn_l_full : Nat → Fn
  | 0 => fun _ _ => .stuck
  | n + 1 => noX (fnSem 2 2 (m_l_full (fun _ => fn_l_full n) n))
def m_is_place_variable : MS :=
    (mRet (mAndV (mOp1 (isD 1 ans_str) (mVar 0)) (mAndV (mOp2 eqD (mCall (one1 lenD) (mCons (mVar 0) mNil)) (mC (.int 1))) (mOp2 (inSg false) (mVar 0) (mC (.str "abcdefghijklmnopqrstuvwxyz"))))))
def fn_is_place_variable : Fn := noX (fnSem 1 1 m_is_place_variable)
def m_is_set_variable : MS :=
    (mRet (mAndV (mOp1 (isD 1 ans_str) (mVar 0)) (mAndV (mOp2 eqD (mCall (one1 lenD) (mCons (mVar 0) mNil)) (mC (.int 1))) (mOp2 (inSg false) (mVar 0) (mC (.str "ABCDEFGHIJKLMNOPQRSTUVWXYZ"))))))
def fn_is_set_variable : Fn := noX (fnSem 1 1 m_is_set_variable)
def m_is_variable : MS :=
    (mRet (mOrV (mCallV fn_is_place_variable (mCons (mVar 0) mNil)) (mCallV fn_is_set_variable (mCons (mVar 0) mNil))))
def fn_is_variable : Fn := noX (fnSem 1 1 m_is_variable)
def m_is_term : MS :=
    (mRet (mAndV (mOp1 (isD 1 ans_str) (mVar 0)) (mOrV (mOp2 (inA false) (mVar 0) (mC (.tup [.str "left", .str "right"]))) (mCallV fn_is_place_variable (mCons (mVar 0) mNil)))))
def fn_is_term : Fn := noX (fnSem 1 1 m_is_term)
def m_is_form (fn_is_form : Nat → Fn) (n : Nat) : MS :=
    (mSeq (mIfS (mOr (mNot (mTest (mOp1 (isD 1 ans_tuple) (mVar 0)))) (mOr (mTest (mOp2 (inA true) (mCall (one1 lenD) (mCons (mVar 0) mNil)) (mTup (mCons (mC (.int 2)) (mCons (mC (.int 3)) mNil))))) (mNot (mTest (mOp1 (isD 1 ans_str) (mOp2 ixD (mVar 0) (mC (.int 0)))))))) (mRet (mC (.bl false))) mNext)
    (mSeq (mIfS (mTest (mOp2 eqD (mOp2 ixD (mVar 0) (mC (.int 0))) (mC (.str "not")))) (mRet (mAndV (mOp2 eqD (mCall (one1 lenD) (mCons (mVar 0) mNil)) (mC (.int 2))) (mCallV (fn_is_form n) (mCons (mOp2 ixD (mVar 0) (mC (.int 1))) mNil)))) mNext)
    (mSeq (mIfS (mTest (mOp2 neD (mCall (one1 lenD) (mCons (mVar 0) mNil)) (mC (.int 3)))) (mRet (mC (.bl false))) mNext)
    (mSeq (mMatch (mOp2 ixD (mVar 0) (mC (.int 0))) [(["tied", "same"], (mRet (mAndV (mCallV fn_is_term (mCons (mOp2 ixD (mVar 0) (mC (.int 1))) mNil)) (mCallV fn_is_term (mCons (mOp2 ixD (mVar 0) (mC (.int 2))) mNil))))), (["in"], (mRet (mAndV (mCallV fn_is_term (mCons (mOp2 ixD (mVar 0) (mC (.int 1))) mNil)) (mCallV fn_is_set_variable (mCons (mOp2 ixD (mVar 0) (mC (.int 2))) mNil))))), (["and", "or"], (mRet (mAndV (mCallV (fn_is_form n) (mCons (mOp2 ixD (mVar 0) (mC (.int 1))) mNil)) (mCallV (fn_is_form n) (mCons (mOp2 ixD (mVar 0) (mC (.int 2))) mNil))))), (["some", "each"], (mRet (mAndV (mCallV fn_is_variable (mCons (mOp2 ixD (mVar 0) (mC (.int 1))) mNil)) (mCallV (fn_is_form n) (mCons (mOp2 ixD (mVar 0) (mC (.int 2))) mNil)))))])
    (mRet (mC (.bl false)))))))
def fn_is_form : Nat → Fn
  | 0 => fun _ _ => .stuck
  | n + 1 => noX (fnSem 1 1 (m_is_form (fun _ => fn_is_form n) n))
def m_inner_forms : MS :=
    (mSeq (mMatch (mOp2 ixD (mVar 0) (mC (.int 0))) [(["not"], (mRet (mTup (mCons (mOp2 ixD (mVar 0) (mC (.int 1))) mNil)))), (["and", "or"], (mRet (mTup (mCons (mOp2 ixD (mVar 0) (mC (.int 1))) (mCons (mOp2 ixD (mVar 0) (mC (.int 2))) mNil))))), (["some", "each"], (mRet (mTup (mCons (mOp2 ixD (mVar 0) (mC (.int 2))) mNil))))])
    (mRet (mTup mNil)))
def fn_inner_forms : Fn := noX (fnSem 1 1 m_inner_forms)
def m_is_choice : MS :=
    (mRet (mOp2 (inA false) (mOp2 ixD (mVar 0) (mC (.int 0))) (mTup (mCons (mC (.str "some")) (mCons (mC (.str "each")) mNil)))))
def fn_is_choice : Fn := noX (fnSem 1 1 m_is_choice)
def p_measures_of_0 (fn_measures_of : Nat → Fn) (n : Nat) : MS :=
    (mFor (mIt itT (mCallV fn_inner_forms (mCons (mVar 0) mNil))) (gN 1) (mSeq (mAsgG (gT [(gN 5), (gN 6), (gN 7)]) (mCallV (fn_measures_of n) (mCons (mVar 1) mNil)))
    (mPar3 2 3 4 (mCons (mOp2 addD (mVar 2) (mVar 5)) (mCons (mCall (two1 maxD) (mCons (mVar 3) (mCons (mVar 6) mNil))) (mCons (mCall (two1 maxD) (mCons (mVar 4) (mCons (mVar 7) mNil))) mNil))))))
def m_measures_of (fn_measures_of : Nat → Fn) (n : Nat) : MS :=
    (mSeq (mAsgG (gT [(gN 2), (gN 3), (gN 4)]) (mTup (mCons (mC (.int 1)) (mCons (mC (.int 0)) (mCons (mC (.int 0)) mNil)))))
    (mSeq (p_measures_of_0 fn_measures_of n)
    (mRet (mTup (mCons (mVar 2) (mCons (mOp2 addD (mVar 3) (mC (.int 1))) (mCons (mOp2 addD (mVar 4) (mCall (one1 intD) (mCons (mCallV fn_is_choice (mCons (mVar 0) mNil)) mNil))) mNil)))))))
def fn_measures_of : Nat → Fn
  | 0 => fun _ _ => .stuck
  | n + 1 => noX (fnSem 8 1 (m_measures_of (fun _ => fn_measures_of n) n))
def m_is_small : MS :=
    (mSeq (mAsgG (gT [(gN 1), (gN 2), (gN 3)]) (mCallV (fn_measures_of 205) (mCons (mVar 0) mNil)))
    (mRet (mAndV (mOp2 leI (mVar 1) (mC (.int 40))) (mAndV (mOp2 leI (mVar 2) (mC (.int 8))) (mOp2 leI (mVar 3) (mC (.int 4)))))))
def fn_is_small : Fn := noX (fnSem 4 1 m_is_small)
def m_x_Saying_uinitu : MS :=
    (mSeq (mIfS (mAnd (mNot (mTest (mVar 2))) (mOr (mNot (mTest (mCallV (fn_is_form 205) (mCons (mVar 1) mNil)))) (mNot (mTest (mCallV fn_is_small (mCons (mVar 1) mNil)))))) (mRaise0 2) mNext)
    (mSetF 0 0 0 (mVar 1)))
def fn_x_Saying_uinitu : Fn := (fnSem 3 3 m_x_Saying_uinitu)
def m_x_FormReader_uinitu : MS :=
    (mSeq (mSetR 0 3 "own_words" (mVar 1))
    (mSetR 0 3 "own_at" (mC (.int 0))))
def fn_x_FormReader_uinitu : Fn := (fnSem 2 2 m_x_FormReader_uinitu)
def m_lam_0 : ME :=
    (mOrV (mCallV fn_is_term (mCons (mVar 0) mNil)) (mOp2 (inA false) (mVar 0) (mTup (mCons (mC (.str "(")) (mCons (mC (.str "not")) (mCons (mC (.str "some")) (mCons (mC (.str "each")) mNil)))))))
def fn_lam_0 : Fn := noX (fnSem 1 1 (mRet m_lam_0))
def m_lam_1 : ME :=
    (mOp2 (inA false) (mVar 0) (mTup (mCons (mC (.str "and")) (mCons (mC (.str "or")) mNil))))
def fn_lam_1 : Fn := noX (fnSem 1 1 (mRet m_lam_1))
def m_lam_2 : ME :=
    (mOp2 eqD (mVar 0) (mC (.str ")")))
def fn_lam_2 : Fn := noX (fnSem 1 1 (mRet m_lam_2))
def m_lam_3 : ME :=
    (mOp2 (inA false) (mVar 0) (mTup (mCons (mC (.str "tied")) (mCons (mC (.str "same")) (mCons (mC (.str "in")) mNil)))))
def fn_lam_3 : Fn := noX (fnSem 1 1 (mRet m_lam_3))
def fv_FormReader_take_is_fit : D → Option Fn
  | .lam 0 => some fn_lam_0
  | .lam 1 => some fn_lam_1
  | .lam 2 => some fn_lam_2
  | .lam 3 => some fn_lam_3
  | .cls 4 => some fn_is_variable
  | .cls 5 => some fn_is_set_variable
  | .cls 6 => some fn_is_term
  | _ => none
def m_z_FormReader_take : MS :=
    (mSeq (mAsg 2 (mFldR 0 3 "own_at"))
    (mSeq (mIfS (mOr (mTest (mOp2 eqD (mVar 2) (mCall (one1 lenD) (mCons (mFldR 0 3 "own_words") mNil)))) (mNot (mTest (mCallFv 1 fv_FormReader_take_is_fit (mCons (mOp2 ixD (mFldR 0 3 "own_words") (mVar 2)) mNil))))) (mRaise 1 "number" (mVar 2)) mNext)
    (mSeq (mSetR 0 3 "own_at" (mOp2 addD (mVar 2) (mC (.int 1))))
    (mRet (mOp2 ixD (mFldR 0 3 "own_words") (mVar 2))))))
def fn_z_FormReader_take : Fn := (fnSem 3 2 m_z_FormReader_take)
def m_z_FormReader_take_pair (fn_z_FormReader_take_form : Nat → Fn) (n : Nat) : MS :=
    (mSeq (mAsg 1 (mMethR 0 3 "take_form" (fn_z_FormReader_take_form n) mNone))
    (mSeq (mAsg 2 (mMethR 0 3 "take" fn_z_FormReader_take (mCons (mC (.lam 1)) mNil)))
    (mSeq (mAsg 3 (mMethR 0 3 "take_form" (fn_z_FormReader_take_form n) mNone))
    (mSeq (mExpr (mMethR 0 3 "take" fn_z_FormReader_take (mCons (mC (.lam 2)) mNil)))
    (mRet (mTup (mCons (mVar 2) (mCons (mVar 1) (mCons (mVar 3) mNil)))))))))
def fn_z_FormReader_take_pair (fn_z_FormReader_take_form : Nat → Fn) (n : Nat) : Fn := fnSem 4 1 (m_z_FormReader_take_pair fn_z_FormReader_take_form n)
def m_z_FormReader_take_atom : MS :=
    (mSeq (mAsg 2 (mMethR 0 3 "take" fn_z_FormReader_take (mCons (mC (.lam 3)) mNil)))
    (mRet (mTup (mCons (mVar 2) (mCons (mVar 1) (mCons (mMethR 0 3 "take" fn_z_FormReader_take (mCons (mIf (mTest (mOp2 eqD (mVar 2) (mC (.str "in")))) (mC (.cls 5)) (mC (.cls 6))) mNil)) mNil))))))
def fn_z_FormReader_take_atom : Fn := (fnSem 3 2 m_z_FormReader_take_atom)
def m_z_FormReader_take_form (fn_z_FormReader_take_form fnp_z_FormReader_take_form : Nat → Fn) (n : Nat) : MS :=
    (mSeq (mAsg 1 (mMethR 0 3 "take" fn_z_FormReader_take (mCons (mC (.lam 0)) mNil)))
    (mSeq (mMatch (mVar 1) [(["not"], (mRet (mTup (mCons (mC (.str "not")) (mCons (mMethR 0 3 "take_form" (fn_z_FormReader_take_form n) mNone) mNil))))), (["some", "each"], (mSeq (mAsg 2 (mMethR 0 3 "take" fn_z_FormReader_take (mCons (mC (.cls 4)) mNil)))
    (mRet (mTup (mCons (mVar 1) (mCons (mVar 2) (mCons (mMethR 0 3 "take_form" (fn_z_FormReader_take_form n) mNone) mNil))))))), (["("], (mRet (mMethR 0 3 "take_pair" (fn_z_FormReader_take_pair fnp_z_FormReader_take_form n) mNone)))])
    (mRet (mMethR 0 3 "take_atom" fn_z_FormReader_take_atom (mCons (mVar 1) mNil)))))
def fn_z_FormReader_take_form : Nat → Fn
  | 0 => fun _ _ => .stuck
  | 1 => fnSem 3 1 (m_z_FormReader_take_form (fun _ _ _ => .stuck) (fun _ _ _ => .stuck) 0)
  | n + 2 => fnSem 3 1 (m_z_FormReader_take_form (fun _ => fn_z_FormReader_take_form (n + 1)) (fun _ => fn_z_FormReader_take_form n) (n + 1))
def m_z_form_of : MS :=
    (mSeq (mIfS (mNot (mTest (mOp1 (isD 1 ans_str) (mVar 0)))) (mRaise 1 "number" (mC .non)) mNext)
    (mSeq (mAsg 1 (mSplit (mVar 0) (mC (.str " "))))
    (mSeq (mIfS (mTest (mOp2 gtI (mCall (one1 lenD) (mCons (mVar 1) mNil)) (mC (.int 200)))) (mRaise 1 "number" (mC (.int 200))) mNext)
    (mSeq (mAsgR 2 (mMakeR 3 fn_x_FormReader_uinitu (mCons (mVar 1) mNil)))
    (mSeq (mAsg 3 (mMethR 2 3 "take_form" (fn_z_FormReader_take_form 210) mNone))
    (mSeq (mIfS (mTest (mOp2 ltI (mFldR 2 3 "own_at") (mCall (one1 lenD) (mCons (mVar 1) mNil)))) (mRaise 1 "number" (mFldR 2 3 "own_at")) mNext)
    (mRet (mVar 3))))))))
def fn_z_form_of : Fn := (fnSem 4 1 m_z_form_of)
def m_z_Saying_of_text : MS :=
    (mRet (mMakeLX 0 0 (wD [.bl false] fn_x_Saying_uinitu) (mCons (mCallX fn_z_form_of (mCons (mVar 1) mNil)) mNil)))
def fn_z_Saying_of_text : Fn := (fnSem 2 2 m_z_Saying_of_text)
def m_l_form_text (fn_l_form_text : Nat → Fn) (n : Nat) : MS :=
    (mSeq (mIfS (mTest (mOp2 (inA false) (mOp2 ixD (mVar 0) (mC (.int 0))) (mTup (mCons (mC (.str "tied")) (mCons (mC (.str "same")) (mCons (mC (.str "in")) mNil)))))) (mRet (mOp2 addD (mOp2 addD (mOp2 addD (mOp2 addD (mOp2 ixD (mVar 0) (mC (.int 1))) (mC (.str " "))) (mOp2 ixD (mVar 0) (mC (.int 0)))) (mC (.str " "))) (mOp2 ixD (mVar 0) (mC (.int 2))))) mNext)
    (mSeq (mIfS (mTest (mOp2 eqD (mOp2 ixD (mVar 0) (mC (.int 0))) (mC (.str "not")))) (mRet (mOp2 addD (mC (.str "not ")) (mCallV (fn_l_form_text n) (mCons (mOp2 ixD (mVar 0) (mC (.int 1))) mNil)))) mNext)
    (mSeq (mIfS (mTest (mOp2 (inA false) (mOp2 ixD (mVar 0) (mC (.int 0))) (mTup (mCons (mC (.str "and")) (mCons (mC (.str "or")) mNil))))) (mSeq (mPar 1 2 (mCons (mCallV (fn_l_form_text n) (mCons (mOp2 ixD (mVar 0) (mC (.int 1))) mNil)) (mCons (mCallV (fn_l_form_text n) (mCons (mOp2 ixD (mVar 0) (mC (.int 2))) mNil)) mNil)))
    (mRet (mOp2 addD (mOp2 addD (mOp2 addD (mOp2 addD (mOp2 addD (mOp2 addD (mC (.str "( ")) (mVar 1)) (mC (.str " "))) (mOp2 ixD (mVar 0) (mC (.int 0)))) (mC (.str " "))) (mVar 2)) (mC (.str " )"))))) mNext)
    (mRet (mOp2 addD (mOp2 addD (mOp2 addD (mOp2 addD (mOp2 ixD (mVar 0) (mC (.int 0))) (mC (.str " "))) (mOp2 ixD (mVar 0) (mC (.int 1)))) (mC (.str " "))) (mCallV (fn_l_form_text n) (mCons (mOp2 ixD (mVar 0) (mC (.int 2))) mNil)))))))
def fn_l_form_text : Nat → Fn
  | 0 => fun _ _ => .stuck
  | n + 1 => noX (fnSem 3 1 (m_l_form_text (fun _ => fn_l_form_text n) n))
def m_l_inner_forms : MS :=
    (mSeq (mIfS (mTest (mOp2 (inA false) (mOp2 ixD (mVar 0) (mC (.int 0))) (mTup (mCons (mC (.str "tied")) (mCons (mC (.str "same")) (mCons (mC (.str "in")) mNil)))))) (mRet (mLst mNil)) mNext)
    (mRet (mIf (mTest (mOp2 eqD (mOp2 ixD (mVar 0) (mC (.int 0))) (mC (.str "not")))) (mLst (mCons (mOp2 ixD (mVar 0) (mC (.int 1))) mNil)) (mIf (mTest (mOp2 (inA false) (mOp2 ixD (mVar 0) (mC (.int 0))) (mTup (mCons (mC (.str "some")) (mCons (mC (.str "each")) mNil))))) (mLst (mCons (mOp2 ixD (mVar 0) (mC (.int 2))) mNil)) (mLst (mCons (mOp2 ixD (mVar 0) (mC (.int 1))) (mCons (mOp2 ixD (mVar 0) (mC (.int 2))) mNil)))))))
def fn_l_inner_forms : Fn := noX (fnSem 1 1 m_l_inner_forms)
def c_l_size_of_0 (fn_l_size_of : Nat → Fn) (n : Nat) : ME :=
    (mLc (mIt itL (mCallV fn_l_inner_forms (mCons (mVar 0) mNil))) [1] (gN 1) mYes (mCallV (fn_l_size_of n) (mCons (mVar 1) mNil)))
def m_l_size_of (fn_l_size_of : Nat → Fn) (n : Nat) : MS :=
    (mRet (mOp2 addD (mC (.int 1)) (mCall (one1 sumLD) (mCons (c_l_size_of_0 fn_l_size_of n) mNil))))
def fn_l_size_of : Nat → Fn
  | 0 => fun _ _ => .stuck
  | n + 1 => noX (fnSem 2 1 (m_l_size_of (fun _ => fn_l_size_of n) n))
def c_l_depth_of_0 (fn_l_depth_of : Nat → Fn) (n : Nat) : ME :=
    (mLc (mIt itL (mCallV fn_l_inner_forms (mCons (mVar 0) mNil))) [1] (gN 1) mYes (mCallV (fn_l_depth_of n) (mCons (mVar 1) mNil)))
def m_l_depth_of (fn_l_depth_of : Nat → Fn) (n : Nat) : MS :=
    (mRet (mOp2 addD (mC (.int 1)) (mCall (one1 maxLD) (mCons (mOp2 addD (mLst (mCons (mC (.int 0)) mNil)) (c_l_depth_of_0 fn_l_depth_of n)) mNil))))
def fn_l_depth_of : Nat → Fn
  | 0 => fun _ _ => .stuck
  | n + 1 => noX (fnSem 2 1 (m_l_depth_of (fun _ => fn_l_depth_of n) n))
def c_l_nested_0 (fn_l_nested : Nat → Fn) (n : Nat) : ME :=
    (mLc (mIt itL (mCallV fn_l_inner_forms (mCons (mVar 0) mNil))) [1] (gN 1) mYes (mCallV (fn_l_nested n) (mCons (mVar 1) mNil)))
def m_l_nested (fn_l_nested : Nat → Fn) (n : Nat) : MS :=
    (mRet (mOp2 addD (mCall (one1 intD) (mCons (mOp2 (inA false) (mOp2 ixD (mVar 0) (mC (.int 0))) (mTup (mCons (mC (.str "some")) (mCons (mC (.str "each")) mNil)))) mNil)) (mCall (one1 maxLD) (mCons (mOp2 addD (mLst (mCons (mC (.int 0)) mNil)) (c_l_nested_0 fn_l_nested n)) mNil))))
def fn_l_nested : Nat → Fn
  | 0 => fun _ _ => .stuck
  | n + 1 => noX (fnSem 2 1 (m_l_nested (fun _ => fn_l_nested n) n))
def m_l_is_small : MS :=
    (mRet (mAndV (mOp2 ltI (mCallV (fn_l_size_of 12) (mCons (mVar 0) mNil)) (mC (.int 41))) (mAndV (mOp2 ltI (mCallV (fn_l_depth_of 12) (mCons (mVar 0) mNil)) (mC (.int 9))) (mOp2 ltI (mCallV (fn_l_nested 12) (mCons (mVar 0) mNil)) (mC (.int 5))))))
def fn_l_is_small : Fn := noX (fnSem 1 1 m_l_is_small)
def p_l_limits_right_0 : MS :=
    (mFor (mItA rng1 (mCons (mC (.int 7)) mNil)) (gN 2) (mAsg 9 (mTup (mCons (mC (.str "not")) (mCons (mVar 9) mNil)))))
def p_l_limits_right_1 : MS :=
    (mFor (mIt itS (mC (.str "xAyB"))) (gN 3) (mAsg 10 (mTup (mCons (mCallD fn_l_pick 0 (mCons (mLst (mCons (mC (.str "some")) (mCons (mC (.str "each")) mNil))) mNil)) (mCons (mVar 3) (mCons (mVar 10) mNil))))))
def c_l_limits_right_2 : ME :=
    (mLc (mIt itL (mVar 8)) [11] (gN 11) mYes (mIf (mTest (mVar 11)) (mC (.str "fine")) (mC (.str "saying"))))
def m_l_limits_right : MS :=
    (mSeq (mAsg 1 (mCallD fn_l_pick 0 (mCons (mLst (mCons (mTup (mCons (mC (.str "tied")) (mCons (mC (.str "x")) (mCons (mC (.str "y")) mNil)))) (mCons (mTup (mCons (mC (.str "same")) (mCons (mC (.str "left")) (mCons (mC (.str "right")) mNil)))) (mCons (mTup (mCons (mC (.str "in")) (mCons (mC (.str "z")) (mCons (mC (.str "Z")) mNil)))) (mCons (mTup (mCons (mC (.str "tied")) (mCons (mC (.str "left")) (mCons (mC (.str "a")) mNil)))) mNil))))) mNil)))
    (mSeq (mAsgG (gT [(gN 9), (gN 10)]) (mTup (mCons (mVar 1) (mCons (mVar 1) mNil))))
    (mSeq p_l_limits_right_0
    (mSeq p_l_limits_right_1
    (mSeq (mAsg 4 (mTup (mCons (mC (.str "and")) (mCons (mVar 10) (mCons (mTup (mCons (mC (.str "some")) (mCons (mC (.str "x")) (mCons (mVar 1) mNil)))) mNil)))))
    (mSeq (mAsg 5 (mTup (mCons (mC (.str "or")) (mCons (mTup (mCons (mC (.str "and")) (mCons (mCallV (fn_l_full 6) (mCons (mC (.int 5)) (mCons (mVar 1) mNil))) (mCons (mTup (mCons (mC (.str "not")) (mCons (mTup (mCons (mC (.str "not")) (mCons (mTup (mCons (mC (.str "not")) (mCons (mVar 1) mNil))) mNil))) mNil))) mNil)))) (mCons (mTup (mCons (mC (.str "not")) (mCons (mTup (mCons (mC (.str "not")) (mCons (mVar 1) mNil))) mNil))) mNil)))))
    (mSeq (mAsgO 6 (mLst (mCons (mToldX excL tc_l_word (some "fine") (mMakeX 0 (wD [.bl false] fn_x_Saying_uinitu) (mCons (mVar 9) mNil))) mNil)))
    (mSeq (mExpr (mAppend 6 (mCons (mToldX excL tc_l_word (some "fine") (mMakeX 0 (wD [.bl false] fn_x_Saying_uinitu) (mCons (mTup (mCons (mC (.str "not")) (mCons (mVar 9) mNil))) mNil))) mNil)))
    (mSeq (mExpr (mAppend 6 (mCons (mToldX excL tc_l_word (some "fine") (mMakeX 0 (wD [.bl false] fn_x_Saying_uinitu) (mCons (mVar 10) mNil))) mNil)))
    (mSeq (mExpr (mAppend 6 (mCons (mToldX excL tc_l_word (some "fine") (mMakeX 0 (wD [.bl false] fn_x_Saying_uinitu) (mCons (mTup (mCons (mC (.str "some")) (mCons (mC (.str "q")) (mCons (mVar 10) mNil)))) mNil))) mNil)))
    (mSeq (mExpr (mAppend 6 (mCons (mToldX excL tc_l_word (some "fine") (mMakeX 0 (wD [.bl false] fn_x_Saying_uinitu) (mCons (mVar 4) mNil))) mNil)))
    (mSeq (mExpr (mAppend 6 (mCons (mToldX excL tc_l_word (some "fine") (mMakeX 0 (wD [.bl false] fn_x_Saying_uinitu) (mCons (mVar 5) mNil))) mNil)))
    (mSeq (mExpr (mAppend 6 (mCons (mToldX excL tc_l_word (some "fine") (mMakeX 0 (wD [.bl false] fn_x_Saying_uinitu) (mCons (mTup (mCons (mC (.str "not")) (mCons (mVar 5) mNil))) mNil))) mNil)))
    (mSeq (mExpr (mAppend 6 (mCons (mToldX excL tc_l_word (some "fine") (mMakeX 0 (wD [.bl false] fn_x_Saying_uinitu) (mCons (mTup (mCons (mC (.str "and")) (mCons (mVar 5) (mCons (mVar 1) mNil)))) mNil))) mNil)))
    (mSeq (mExpr (mAppend 6 (mCons (mToldX excL tc_l_word (some "fine") (mCmX 0 fn_z_Saying_of_text (mCons (mCallV (fn_l_form_text 12) (mCons (mTup (mCons (mC (.str "not")) (mCons (mVar 9) mNil))) mNil)) mNil))) mNil)))
    (mSeq (mExpr (mAppend 6 (mCons (mToldX excL tc_l_word (some "fine") (mCmX 0 fn_z_Saying_of_text (mCons (mCallV (fn_l_form_text 12) (mCons (mTup (mCons (mC (.str "and")) (mCons (mVar 5) (mCons (mVar 1) mNil)))) mNil)) mNil))) mNil)))
    (mSeq (mAsg 7 (mLst (mCons (mC (.str "fine")) (mCons (mC (.str "saying")) (mCons (mC (.str "fine")) (mCons (mC (.str "saying")) (mCons (mC (.str "fine")) mNil)))))))
    (mSeq (mAsg 8 (mLst (mCons (mCallV fn_l_is_small (mCons (mVar 5) mNil)) (mCons (mCallV fn_l_is_small (mCons (mTup (mCons (mC (.str "not")) (mCons (mVar 5) mNil))) mNil)) (mCons (mCallV fn_l_is_small (mCons (mTup (mCons (mC (.str "and")) (mCons (mVar 5) (mCons (mVar 1) mNil)))) mNil)) mNil)))))
    (mSeq (mAsg 7 (mOp2 addD (mOp2 addD (mVar 7) c_l_limits_right_2) (mLst (mCons (mC (.str "saying")) (mCons (mC (.str "saying")) mNil)))))
    (mRet (mAndV (mOp2 eqD (mGive 6) (mVar 7)) (mOp2 eqD (mLst (mCons (mCallV (fn_l_size_of 12) (mCons (mVar 5) mNil)) (mCons (mVar 8) mNil))) (mLst (mCons (mC (.int 40)) (mCons (mLst (mCons (mC (.bl true)) (mCons (mC (.bl false)) (mCons (mC (.bl false)) mNil)))) mNil)))))))))))))))))))))))))
def fn_l_limits_right : Fn := noX (fnSem 12 1 m_l_limits_right)
def p_l_mixed_0 : MS :=
    (mFor (mItA rng1 (mCons (mCall (one1 lenD) (mCons (mVar 1) mNil)) mNil)) (gN 2) (mExpr (mAppend 4 (mCons (mPopAt 3 (mCons (mCallD fn_l_roll 0 (mCons (mLenO 3) mNil)) mNil)) mNil))))
def m_l_mixed : MS :=
    (mSeq (mPar0 3 4 (.lst []) (mCall (one1 lstD) (mCons (mVar 1) mNil)))
    (mSeq p_l_mixed_0
    (mRetO 4)))
def fn_l_mixed : Fn := noX (fnSem 5 2 m_l_mixed)
def c_l_values_right_0 : ME :=
    (mLc (mIt itL (mSl (mCallD fn_l_mixed 0 (mCons (mVar 2) mNil)) mNo (mPart (mC (.int 20))))) [3] (gN 3) (mTest (mOp2 neD (mToldX excL tc_l_word (some "fine") (mMakeX 0 (wD [.bl false] fn_x_Saying_uinitu) (mCons (mVar 3) mNil))) (mC (.str "saying")))) (mVar 3))
def m_l_values_right : MS :=
    (mSeq (mAsg 1 (mTup (mCons (mC (.str "tied")) (mCons (mC (.str "x")) (mCons (mC (.str "y")) mNil)))))
    (mSeq (mAsg 2 (mLst (mCons (mC .non) (mCons (mC (.int 0)) (mCons (mC (.str "x tied y")) (mCons (mTup mNil) (mCons (mLst (mCons (mC (.str "tied")) (mCons (mC (.str "x")) (mCons (mC (.str "y")) mNil)))) (mCons (mTup (mCons (mC (.str "tied")) (mCons (mC (.str "x")) mNil))) (mCons (mTup (mCons (mC (.str "tied")) (mCons (mC (.str "x")) (mCons (mC (.str "y")) (mCons (mC (.str "z")) mNil))))) (mCons (mTup (mCons (mC (.str "tied")) (mCons (mC (.str "x")) (mCons (mC (.str "Y")) mNil)))) (mCons (mTup (mCons (mC (.str "tied")) (mCons (mC (.str "x")) (mCons (mC (.str "xy")) mNil)))) mNil)))))))))))
    (mSeq (mAsg 2 (mOp2 addD (mVar 2) (mLst (mCons (mTup (mCons (mC (.str "in")) (mCons (mC (.str "x")) (mCons (mC (.str "a")) mNil)))) (mCons (mTup (mCons (mC (.str "in")) (mCons (mC (.str "A")) (mCons (mC (.str "A")) mNil)))) (mCons (mTup (mCons (mC (.str "in")) (mCons (mC (.str "x")) (mCons (mC (.str "left")) mNil)))) (mCons (mTup (mCons (mC (.str "same")) (mCons (mC (.str "")) (mCons (mC (.str "x")) mNil)))) (mCons (mTup (mCons (mC (.str "tied")) (mCons (mC (.int 1)) (mCons (mC (.str "x")) mNil)))) (mCons (mTup (mCons (mC (.str "Tied")) (mCons (mC (.str "x")) (mCons (mC (.str "y")) mNil)))) (mCons mDct0 mNil))))))))))
    (mSeq (mAsg 2 (mOp2 addD (mVar 2) (mLst (mCons (mTup (mCons (mC (.str "not")) mNil)) (mCons (mTup (mCons (mC (.str "not")) (mCons (mVar 1) (mCons (mVar 1) mNil)))) (mCons (mTup (mCons (mC (.str "not")) (mCons (mC .non) mNil))) (mCons (mTup (mCons (mC (.str "and")) (mCons (mVar 1) mNil))) (mCons (mTup (mCons (mC (.str "and")) (mCons (mVar 1) (mCons (mVar 1) (mCons (mVar 1) mNil))))) (mCons (mTup (mCons (mC (.str "or")) (mCons (mVar 1) (mCons (mC (.str "x tied y")) mNil)))) mNil)))))))))
    (mSeq (mAsg 2 (mOp2 addD (mVar 2) (mLst (mCons (mTup (mCons (mC (.str "some")) (mCons (mC (.str "x")) mNil))) (mCons (mTup (mCons (mC (.str "some")) (mCons (mC (.str "left")) (mCons (mVar 1) mNil)))) (mCons (mTup (mCons (mC (.str "some")) (mCons (mC (.str "xy")) (mCons (mVar 1) mNil)))) (mCons (mTup (mCons (mC (.str "each")) (mCons (mC (.int 1)) (mCons (mVar 1) mNil)))) (mCons (mTup (mCons (mC (.str "some")) (mCons (mVar 1) (mCons (mC (.str "x")) mNil)))) (mCons (mTup (mCons (mC (.str "each")) (mCons (mC (.str "")) (mCons (mVar 1) mNil)))) mNil)))))))))
    (mSeq (mAsg 2 (mOp2 addD (mVar 2) (mLst (mCons (mTup (mCons (mC (.str "not")) (mCons (mLst (mCons (mC (.str "tied")) (mCons (mC (.str "x")) (mCons (mC (.str "y")) mNil)))) mNil))) (mCons (mTup (mCons (mVar 1) mNil)) (mCons (mTup (mCons (mC (.str "some")) (mCons (mLst (mCons (mC (.str "x")) mNil)) (mCons (mVar 1) mNil)))) (mCons (mTup (mCons (mC (.str "tied")) (mCons (mTup (mCons (mC (.str "x")) mNil)) (mCons (mC (.str "y")) mNil)))) (mCons (mTup (mCons (mC (.str "tied")) (mCons (mC (.str "left")) (mCons (mC (.str "Right")) mNil)))) (mCons (mC (.bl true)) mNil)))))))))
    (mRet (mOp2 eqD c_l_values_right_0 (mLst mNil)))))))))
def fn_l_values_right : Fn := noX (fnSem 4 1 m_l_values_right)
def p_lawX_0 : MS :=
    (mFor (mItA rng1 (mCons (mCall (two1 maxD) (mCons (mC (.int 1)) (mCons (mCall (two1 minD) (mCons (mC (.int 2)) (mCons (mCall (one1 lenD) (mCons (mVar 0) mNil)) mNil))) mNil))) mNil)) (gN 1) (mSeq (mAsgO 3 (mCallV fn_l_dice (mCons (mVar 0) (mCons (mVar 1) mNil))))
    (mIfS (mOr (mNot (mTest (mCallD fn_l_limits_right 3 mNil))) (mNot (mTest (mCallD fn_l_values_right 3 mNil)))) (mRet (mC (.bl false))) mNext)))
def m_lawX : MS :=
    (mSeq p_lawX_0
    (mSeq (mAsgO 2 (mLst (mCons (mToldX excL tc_l_word (some "fine") (mCmX 0 fn_z_Saying_of_text (mCons (mOp2 addD (mOp2 mulS (mC (.str "not ")) (mC (.int 200))) (mC (.str "x tied y"))) mNil))) mNil)))
    (mSeq (mExpr (mAppend 2 (mCons (mToldX excL tc_l_word (some "fine") (mCmX 0 fn_z_Saying_of_text (mCons (mOp2 addD (mOp2 mulS (mC (.str "not ")) (mC (.int 197))) (mC (.str "x tied y"))) mNil))) mNil)))
    (mSeq (mExpr (mAppend 2 (mCons (mToldX excL tc_l_word (some "fine") (mCmX 0 fn_z_Saying_of_text (mCons (mOp2 addD (mOp2 mulS (mC (.str "no ")) (mC (.int 201))) (mC (.str "x"))) mNil))) mNil)))
    (mRet (mOp2 eqD (mOp2 addD (mGive 2) (mLst (mCons (mC (.int 40)) (mCons (mC (.int 8)) (mCons (mC (.int 4)) (mCons (mC (.int 200)) (mCons (mC (.int 200000)) mNil))))))) (mLst (mCons (mC (.str "parse 200")) (mCons (mC (.str "saying")) (mCons (mC (.str "parse 200")) (mCons (mC (.int 40)) (mCons (mC (.int 8)) (mCons (mC (.int 4)) (mCons (mC (.int 200)) (mCons (mC (.int 200000)) mNil)))))))))))))))
def fn_lawX : Fn := noX (fnSem 4 1 m_lawX)
end PM.G

/-! printed by gen.py from the defs of the law: what each is worth, and why -/
namespace PM.G
open PySem PySem.Spec PyProof.Rows L2 PM
abbrev lp_0 : Arguments := (lamT ((defBody s_FormReader_take_form).getD 0 (.Pass ⟨0, 0, 0, 0⟩))).1
abbrev le_0 : Expr := (lamT ((defBody s_FormReader_take_form).getD 0 (.Pass ⟨0, 0, 0, 0⟩))).2.1
abbrev ls_0 : Scope := (lamT ((defBody s_FormReader_take_form).getD 0 (.Pass ⟨0, 0, 0, 0⟩))).2.2
abbrev lq_0 : PySem.Str := "FormReader.take_form" ++ ".<locals>." ++ "<lambda>"
abbrev lp_1 : Arguments := (lamT ((defBody s_FormReader_take_pair).getD 1 (.Pass ⟨0, 0, 0, 0⟩))).1
abbrev le_1 : Expr := (lamT ((defBody s_FormReader_take_pair).getD 1 (.Pass ⟨0, 0, 0, 0⟩))).2.1
abbrev ls_1 : Scope := (lamT ((defBody s_FormReader_take_pair).getD 1 (.Pass ⟨0, 0, 0, 0⟩))).2.2
abbrev lq_1 : PySem.Str := "FormReader.take_pair" ++ ".<locals>." ++ "<lambda>"
abbrev lp_2 : Arguments := (lamT ((defBody s_FormReader_take_pair).getD 3 (.Pass ⟨0, 0, 0, 0⟩))).1
abbrev le_2 : Expr := (lamT ((defBody s_FormReader_take_pair).getD 3 (.Pass ⟨0, 0, 0, 0⟩))).2.1
abbrev ls_2 : Scope := (lamT ((defBody s_FormReader_take_pair).getD 3 (.Pass ⟨0, 0, 0, 0⟩))).2.2
abbrev lq_2 : PySem.Str := "FormReader.take_pair" ++ ".<locals>." ++ "<lambda>"
abbrev lp_3 : Arguments := (lamT ((defBody s_FormReader_take_atom).getD 0 (.Pass ⟨0, 0, 0, 0⟩))).1
abbrev le_3 : Expr := (lamT ((defBody s_FormReader_take_atom).getD 0 (.Pass ⟨0, 0, 0, 0⟩))).2.1
abbrev ls_3 : Scope := (lamT ((defBody s_FormReader_take_atom).getD 0 (.Pass ⟨0, 0, 0, 0⟩))).2.2
abbrev lq_3 : PySem.Str := "FormReader.take_atom" ++ ".<locals>." ++ "<lambda>"
/-- what the top must have written -/
structure Tx (K : PySem.W.Frag) (mg : Str → Option Value) (wo : World) (w : Wd) : Prop where
  hK : w.K = K
  hT : w.T = []
  hW : w.wo = wo
  cok : ClsOk w 1
  lo_0 : w.lo 0 = (lq_0, lp_0, le_0, ls_0)
  lo_1 : w.lo 1 = (lq_1, lp_1, le_1, ls_1)
  lo_2 : w.lo 2 = (lq_2, lp_2, le_2, ls_2)
  lo_3 : w.lo 3 = (lq_3, lp_3, le_3, ls_3)
  rc_FormReader : RcOk w 3
  na_FormReader_own_at : NoA w 3 "own_at"
  na_FormReader_own_words : NoA w 3 "own_words"
  w_ENDS : ∃ a, mg "ENDS" = some (.ref a) ∧ WrT w.K a ((["left", "right"] : List PySem.Str).map V.str)
  at_l_limits_right : ∀ f, mg "_law_limits_right" = some (.ref f) → lk_l_limits_right.at_ K = f
  at_l_values_right : ∀ f, mg "_law_values_right" = some (.ref f) → lk_l_values_right.at_ K = f
  at_lawX : ∀ f, mg "law" = some (.ref f) → lk_lawX.at_ K = f
  n_abs : mg "abs" = none
  n_int : mg "int" = none
  n_isinstance : mg "isinstance" = none
  n_len : mg "len" = none
  n_list : mg "list" = none
  n_max : mg "max" = none
  n_min : mg "min" = none
  n_range : mg "range" = none
  n_repr : mg "repr" = none
  n_str : mg "str" = none
  n_sum : mg "sum" = none
  n_tuple : mg "tuple" = none
  i_MAX_CHOICES : ∃ t, mg "MAX_CHOICES" = some (.int 4 t)
  i_MAX_DEPTH : ∃ t, mg "MAX_DEPTH" = some (.int 8 t)
  i_MAX_FORMS : ∃ t, mg "MAX_FORMS" = some (.int 40 t)
  i_MAX_TRIES : ∃ t, mg "MAX_TRIES" = some (.int 200000 t)
  i_MAX_WORDS : ∃ t, mg "MAX_WORDS" = some (.int 200 t)
  i_GREAT_LETTERS : ∃ t, mg "GREAT_LETTERS" = some (.str "ABCDEFGHIJKLMNOPQRSTUVWXYZ" t)
  i_SMALL_LETTERS : ∃ t, mg "SMALL_LETTERS" = some (.str "abcdefghijklmnopqrstuvwxyz" t)
  c_FormReader : mg "FormReader" = some (.ref (w.cl 3))
  c_InvalidSaying : mg "InvalidSaying" = some (.ref (w.cl 2))
  c_ParseError : mg "ParseError" = some (.ref (w.cl 1))
  c_Saying : mg "Saying" = some (.ref (w.cl 0))
  c_is_set_variable : mg "is_set_variable" = some (.ref (w.cl 5))
  c_is_term : mg "is_term" = some (.ref (w.cl 6))
  c_is_variable : mg "is_variable" = some (.ref (w.cl 4))
  n_super : mg "super" = none
  k_ParseError : ClK w.K (w.cl 1) "number"
  exm : ∀ a ∈ excL, ∀ b ∈ excL, PySem.W.exmOne w.K (.ref (w.cl a)) (.ref (w.cl b)) = some (a == b)
  sys : (w.K.lookup sysModules).isSome = true
  x0_InvalidSaying : Err0 w.K (w.cl 2) "ValueError.__new__" [.type "ValueError", .type "Exception", .type "BaseException", .type "object"]
  isi_str : ∀ t b, ans_str t = some b → PySem.W.kitOne w.K (t.v w) (.type "str") = some b
  isi_tuple : ∀ t b, ans_tuple t = some b → PySem.W.kitOne w.K (t.v w) (.type "tuple") = some b
  st_own_form_0 : SetOk w 0 "own_form" 0
  f_l_dice : ∃ a fd, Fun K "_law_dice" "_law_dice" s_l_dice a fd ∧ mg "_law_dice" = some (.ref a)
  f_l_roll : ∃ a fd, Fun K "_law_roll" "_law_roll" s_l_roll a fd ∧ mg "_law_roll" = some (.ref a)
  f_l_pick : ∃ a fd, Fun K "_law_pick" "_law_pick" s_l_pick a fd ∧ mg "_law_pick" = some (.ref a)
  f_l_full : ∃ a fd, Fun K "_law_full" "_law_full" s_l_full a fd ∧ mg "_law_full" = some (.ref a)
  f_l_word : ∃ a fd, Fun K "_law_word" "_law_word" s_l_word a fd ∧ mg "_law_word" = some (.ref a)
  f_is_place_variable : ∃ a fd, Fun K "is_place_variable" "is_place_variable" s_is_place_variable a fd ∧ mg "is_place_variable" = some (.ref a)
  f_is_set_variable : ∃ a fd, Fun K "is_set_variable" "is_set_variable" s_is_set_variable a fd ∧ mg "is_set_variable" = some (.ref a)
  f_is_variable : ∃ a fd, Fun K "is_variable" "is_variable" s_is_variable a fd ∧ mg "is_variable" = some (.ref a)
  f_is_term : ∃ a fd, Fun K "is_term" "is_term" s_is_term a fd ∧ mg "is_term" = some (.ref a)
  f_is_form : ∃ a fd, Fun K "is_form" "is_form" s_is_form a fd ∧ mg "is_form" = some (.ref a)
  f_inner_forms : ∃ a fd, Fun K "inner_forms" "inner_forms" s_inner_forms a fd ∧ mg "inner_forms" = some (.ref a)
  f_is_choice : ∃ a fd, Fun K "is_choice" "is_choice" s_is_choice a fd ∧ mg "is_choice" = some (.ref a)
  f_measures_of : ∃ a fd, Fun K "measures_of" "measures_of" s_measures_of a fd ∧ mg "measures_of" = some (.ref a)
  f_is_small : ∃ a fd, Fun K "is_small" "is_small" s_is_small a fd ∧ mg "is_small" = some (.ref a)
  f_Saying_uinitu : ∃ g fd, Fun K "__init__" "Saying.__init__" s_Saying_uinitu g fd ∧ Mk K (w.cl 0) g ∧ kwChk g [("is_known", .bl false)] K = true
  f_FormReader_uinitu : ∃ g fd, Fun K "__init__" "FormReader.__init__" s_FormReader_uinitu g fd ∧ Mk K (w.cl 3) g
  f_FormReader_take : ∃ g fd, Fun K "take" "FormReader.take" s_FormReader_take g fd ∧ Meth K (w.cl 3) "take" g
  f_FormReader_take_pair : ∃ g fd, Fun K "take_pair" "FormReader.take_pair" s_FormReader_take_pair g fd ∧ Meth K (w.cl 3) "take_pair" g ∧ lk_FormReader_take_pair.at_ K = g
  f_FormReader_take_atom : ∃ g fd, Fun K "take_atom" "FormReader.take_atom" s_FormReader_take_atom g fd ∧ Meth K (w.cl 3) "take_atom" g ∧ lk_FormReader_take_atom.at_ K = g
  f_FormReader_take_form : ∃ g fd, Fun K "take_form" "FormReader.take_form" s_FormReader_take_form g fd ∧ Meth K (w.cl 3) "take_form" g ∧ lk_FormReader_take_form.at_ K = g
  f_form_of : ∃ a fd, Fun K "form_of" "form_of" s_form_of a fd ∧ mg "form_of" = some (.ref a)
  f_Saying_of_text : ∃ g fd, Fun K "of_text" "Saying.of_text" s_Saying_of_text g fd ∧ CmOk w 0 "of_text" g
  f_l_form_text : ∃ a fd, Fun K "_law_form_text" "_law_form_text" s_l_form_text a fd ∧ mg "_law_form_text" = some (.ref a)
  f_l_inner_forms : ∃ a fd, Fun K "_law_inner_forms" "_law_inner_forms" s_l_inner_forms a fd ∧ mg "_law_inner_forms" = some (.ref a)
  f_l_size_of : ∃ a fd, Fun K "_law_size_of" "_law_size_of" s_l_size_of a fd ∧ mg "_law_size_of" = some (.ref a)
  f_l_depth_of : ∃ a fd, Fun K "_law_depth_of" "_law_depth_of" s_l_depth_of a fd ∧ mg "_law_depth_of" = some (.ref a)
  f_l_nested : ∃ a fd, Fun K "_law_nested" "_law_nested" s_l_nested a fd ∧ mg "_law_nested" = some (.ref a)
  f_l_is_small : ∃ a fd, Fun K "_law_is_small" "_law_is_small" s_l_is_small a fd ∧ mg "_law_is_small" = some (.ref a)
  f_l_limits_right : ∃ a fd, Fun K "_law_limits_right" "_law_limits_right" s_l_limits_right a fd ∧ mg "_law_limits_right" = some (.ref a)
  f_l_mixed : ∃ a fd, Fun K "_law_mixed" "_law_mixed" s_l_mixed a fd ∧ mg "_law_mixed" = some (.ref a)
  f_l_values_right : ∃ a fd, Fun K "_law_values_right" "_law_values_right" s_l_values_right a fd ∧ mg "_law_values_right" = some (.ref a)
  f_lawX : ∃ a fd, Fun K "law" "law" s_lawX a fd ∧ mg "law" = some (.ref a)
structure TxP (P : Program) (K : PySem.W.Frag) (w : Wd) : Prop where
  x_ParseError : ErrK P K (w.cl 1) "number"
section
variable {P : Program} {wo : World} {K : PySem.W.Frag} {mg : Str → Option Value} {base : Heap} {w : Wd}
/-! ### _law_dice -/
theorem sc_l_dice : FnScope ["_law_script", "_law_spot", "_law_cell", "_law_left"] ["_law_script", "_law_spot"] (defScope s_l_dice) := ⟨rfl, rfl, rfl, by decide +kernel, rfl, by decide +kernel, by decide +kernel⟩
theorem ok_l_dice (T : Tx K mg wo w) (TP : TxP P K w) : DefOk false P wo K mg base w "_law_dice" 2 1 fn_l_dice := by
  obtain ⟨a, fd, F, hm⟩ := T.f_l_dice
  refine ⟨a, fd, ["_law_script", "_law_spot"], rfl, (show FnP false P wo K mg base (0 + 1) a fd _ _ from fn_ok0 T.hT false F sc_l_dice (by decide) fun cdv A outer s H E hgu hr => ?_), hm, F.kp, (F.binds fun _ _ _ _ _ _ us hl => match us, hl with | [_, _], _ => rfl)⟩
  exact (pms_cons (pms_set (i := 2) sc_l_dice.nd rfl (by first | exact .inl rfl | exact .inr rfl) (pm_if (pmt_lt (pm_var 1) (pm_len T.hK (by rfl) T.n_len (pma_cons (pm_var 0) pma_nil))) (pm_int1 (by rfl) T.n_int (pma_cons (pm_item T.hK (pm_var 0) (pm_var 1)) pma_nil)) (pm_add T.hK (pm_mul pm_int (pm_var 1)) pm_int)))
      (pms_cons (pms_set (i := 3) sc_l_dice.nd rfl (by first | exact .inl rfl | exact .inr rfl) (pm_mod (pm_max rfl (by rfl) T.n_max (pma_cons pm_int (pma_cons (pm_sub (pm_abs (by rfl) T.n_abs (pma_cons (pm_var 2) pma_nil)) (pm_pow pm_int pm_int)) pma_nil))) (pm_mul (pm_pow pm_int pm_int) (pm_pow pm_int pm_int))))
      (pms_one (pms_ret (pm_lst (pma_cons (pm_var 3) (pma_cons (pm_add T.hK (pm_add T.hK (pm_add T.hK (pm_mul (pm_mod (pm_abs (by rfl) T.n_abs (pma_cons (pm_var 2) pma_nil)) pm_int) pm_int) (pm_mul pm_int (pm_var 1))) (pm_mul pm_int (pm_int1 (by rfl) T.n_int (pma_cons (pm_lt (pm_var 2) pm_int) pma_nil)))) pm_int) (pma_cons pm_int pma_nil))))))))
/-! ### _law_roll -/
theorem sc_l_roll : FnScope ["_law_dice_here", "_law_total", "_law_one", "_law_two", "_law_found"] ["_law_dice_here", "_law_total"] (defScope s_l_roll) := ⟨rfl, rfl, rfl, by decide +kernel, rfl, by decide +kernel, by decide +kernel⟩
theorem ok_l_roll (T : Tx K mg wo w) (TP : TxP P K w) : DefOk false P wo K mg base w "_law_roll" 2 1 fn_l_roll := by
  obtain ⟨a, fd, F, hm⟩ := T.f_l_roll
  refine ⟨a, fd, ["_law_dice_here", "_law_total"], rfl, (show FnP false P wo K mg base (0 + 1) a fd _ _ from fn_ok0 T.hT false F sc_l_roll (by decide) fun cdv A outer s H E hgu hr => ?_), hm, F.kp, (F.binds fun _ _ _ _ _ _ us hl => match us, hl with | [_, _], _ => rfl)⟩
  exact (pms_cons (pms_if (pmt_gt (pm_itemO 0 T.hK pm_int) pm_int) (pms_cons (pms_set (i := 4) sc_l_roll.nd rfl (by first | exact .inl rfl | exact .inr rfl) (pm_mod (pm_int1 (by rfl) T.n_int (pma_cons (pm_itemO 0 T.hK pm_int) pma_nil)) (pm_var 1)))
      (pms_cons (pms_setItem 0 (pm_div (pm_itemO 0 T.hK pm_int) (pm_var 1)) pm_int)
      (pms_one (pms_ret (pm_var 4))))) pms_nil)
      (pms_cons (pms_setItem 0 (pm_add T.hK (pm_itemO 0 T.hK pm_int) pm_int) pm_int)
      (pms_cons (pms_set (i := 2) sc_l_roll.nd rfl (by first | exact .inl rfl | exact .inr rfl) (pm_mod (pm_int1 (by rfl) T.n_int (pma_cons (pm_add T.hK (pm_itemO 0 T.hK pm_int) (pm_mul pm_int (pm_itemO 0 T.hK pm_int))) pma_nil)) pm_int))
      (pms_cons (pms_set (i := 3) sc_l_roll.nd rfl (by first | exact .inl rfl | exact .inr rfl) (pm_add T.hK (pm_mul (pm_mod (pm_int1 (by rfl) T.n_int (pma_cons (pm_add T.hK (pm_mul (pm_var 2) (pm_var 2)) (pm_mul pm_int (pm_itemO 0 T.hK pm_int))) pma_nil)) pm_int) pm_int) (pm_var 2)))
      (pms_one (pms_ret (pm_mod (pm_int1 (by rfl) T.n_int (pma_cons (pm_div (pm_var 3) pm_int) pma_nil)) (pm_var 1))))))))
/-! ### _law_pick -/
theorem sc_l_pick : FnScope ["_law_dice_here", "_law_items"] ["_law_dice_here", "_law_items"] (defScope s_l_pick) := ⟨rfl, rfl, rfl, by decide +kernel, rfl, by decide +kernel, by decide +kernel⟩
theorem ok_l_pick (T : Tx K mg wo w) (TP : TxP P K w) : DefOk false P wo K mg base w "_law_pick" 2 2 fn_l_pick := by
  obtain ⟨a, fd, F, hm⟩ := T.f_l_pick
  have d_l_roll := ok_l_roll (P := P) (base := base) T TP
  refine ⟨a, fd, ["_law_dice_here", "_law_items"], rfl, (show FnP false P wo K mg base (1 + 1) a fd _ _ from fn_ok0 T.hT false F sc_l_pick (by decide) fun cdv A outer s H E hgu hr => ?_), hm, F.kp, (F.binds fun _ _ _ _ _ _ us hl => match us, hl with | [_, _], _ => rfl)⟩
  exact (pms_one (pms_ret (pm_item T.hK (pm_var 1) (pm_callD 0 d_l_roll (fun z => by cases z) (hr.mono (by omega)) (by rfl) (pma_cons (pm_len T.hK (by rfl) T.n_len (pma_cons (pm_var 1) pma_nil)) pma_nil) (len_cons len_nil)))))
/-! ### _law_full -/
theorem sc_l_full : FnScope ["_law_depth", "_law_atom"] ["_law_depth", "_law_atom"] (defScope s_l_full) := ⟨rfl, rfl, rfl, by decide +kernel, rfl, by decide +kernel, by decide +kernel⟩
theorem ok_l_full (T : Tx K mg wo w) (TP : TxP P K w) : ∀ n, DefOk false P wo K mg base w "_law_full" 2 (n + 1) (fn_l_full n)
  | 0 => by
    obtain ⟨a, fd, F, hm⟩ := T.f_l_full
    exact (def_zero false (a := a) (fd := fd) (ps := ["_law_depth", "_law_atom"]) (fun _ _ => rfl) rfl hm F.kp (F.binds fun _ _ _ _ _ _ us hl => match us, hl with | [_, _], _ => rfl)).mono (by omega)
  | n + 1 => by
    have d_l_full := ok_l_full T TP n
    obtain ⟨a, fd, F, hm⟩ := T.f_l_full
    refine ⟨a, fd, ["_law_depth", "_law_atom"], rfl, (show FnP false P wo K mg base (n + 1 + 1) a fd _ _ from fn_ok0 T.hT false F sc_l_full (by decide) fun cdv A outer s H E hgu hr => ?_), hm, F.kp, (F.binds fun _ _ _ _ _ _ us hl => match us, hl with | [_, _], _ => rfl)⟩
    exact (pms_cons (pms_if (pmt_eq T.hK hr (pm_var 0) pm_int) (pms_one (pms_ret (pm_var 1))) pms_nil)
      (pms_one (pms_ret (pm_tup (pma_cons pm_str (pma_cons (pm_call d_l_full (fun z => by cases z) (hr.mono (by omega)) (by rfl) (pma_cons (pm_sub (pm_var 0) pm_int) (pma_cons (pm_var 1) pma_nil)) (len_cons (len_cons len_nil))) (pma_cons (pm_call d_l_full (fun z => by cases z) (hr.mono (by omega)) (by rfl) (pma_cons (pm_sub (pm_var 0) pm_int) (pma_cons (pm_var 1) pma_nil)) (len_cons (len_cons len_nil))) pma_nil)))))))
/-! ### _law_word -/
theorem sc_l_word : FnScope ["_law_call", "e"] ["_law_call"] (defScope s_l_word) := ⟨rfl, rfl, rfl, by decide +kernel, rfl, by decide +kernel, by decide +kernel⟩
/-! ### is_place_variable -/
theorem sc_is_place_variable : FnScope ["value"] ["value"] (defScope s_is_place_variable) := ⟨rfl, rfl, rfl, by decide +kernel, rfl, by decide +kernel, by decide +kernel⟩
theorem ok_is_place_variable (T : Tx K mg wo w) (TP : TxP P K w) : DefOk false P wo K mg base w "is_place_variable" 1 1 fn_is_place_variable := by
  obtain ⟨a, fd, F, hm⟩ := T.f_is_place_variable
  obtain ⟨_, i_SMALL_LETTERS⟩ := T.i_SMALL_LETTERS
  refine ⟨a, fd, ["value"], rfl, (show FnP false P wo K mg base (0 + 1) a fd _ _ from fn_ok0 T.hT false F sc_is_place_variable (by decide) fun cdv A outer s H E hgu hr => ?_), hm, F.kp, (F.binds fun _ _ _ _ _ _ us hl => match us, hl with | [_], _ => rfl)⟩
  exact (pms_one (pms_ret (pm_and (pm_isiB T.hK T.cok T.isi_str (by rfl) T.n_isinstance (by rfl) T.n_str rfl (pm_var 0)) (pm_and (pm_eq T.hK hr (pm_len T.hK (by rfl) T.n_len (pma_cons (pm_var 0) pma_nil)) pm_int) (pm_one (pm_inSg (pm_var 0) (pm_gstr (by rfl) i_SMALL_LETTERS)))))))
/-! ### is_set_variable -/
theorem sc_is_set_variable : FnScope ["value"] ["value"] (defScope s_is_set_variable) := ⟨rfl, rfl, rfl, by decide +kernel, rfl, by decide +kernel, by decide +kernel⟩
theorem ok_is_set_variable (T : Tx K mg wo w) (TP : TxP P K w) : DefOk false P wo K mg base w "is_set_variable" 1 1 fn_is_set_variable := by
  obtain ⟨a, fd, F, hm⟩ := T.f_is_set_variable
  obtain ⟨_, i_GREAT_LETTERS⟩ := T.i_GREAT_LETTERS
  refine ⟨a, fd, ["value"], rfl, (show FnP false P wo K mg base (0 + 1) a fd _ _ from fn_ok0 T.hT false F sc_is_set_variable (by decide) fun cdv A outer s H E hgu hr => ?_), hm, F.kp, (F.binds fun _ _ _ _ _ _ us hl => match us, hl with | [_], _ => rfl)⟩
  exact (pms_one (pms_ret (pm_and (pm_isiB T.hK T.cok T.isi_str (by rfl) T.n_isinstance (by rfl) T.n_str rfl (pm_var 0)) (pm_and (pm_eq T.hK hr (pm_len T.hK (by rfl) T.n_len (pma_cons (pm_var 0) pma_nil)) pm_int) (pm_one (pm_inSg (pm_var 0) (pm_gstr (by rfl) i_GREAT_LETTERS)))))))
/-! ### is_variable -/
theorem sc_is_variable : FnScope ["value"] ["value"] (defScope s_is_variable) := ⟨rfl, rfl, rfl, by decide +kernel, rfl, by decide +kernel, by decide +kernel⟩
theorem ok_is_variable (T : Tx K mg wo w) (TP : TxP P K w) : DefOk false P wo K mg base w "is_variable" 1 2 fn_is_variable := by
  obtain ⟨a, fd, F, hm⟩ := T.f_is_variable
  have d_is_place_variable := ok_is_place_variable (P := P) (base := base) T TP
  have d_is_set_variable := ok_is_set_variable (P := P) (base := base) T TP
  refine ⟨a, fd, ["value"], rfl, (show FnP false P wo K mg base (1 + 1) a fd _ _ from fn_ok0 T.hT false F sc_is_variable (by decide) fun cdv A outer s H E hgu hr => ?_), hm, F.kp, (F.binds fun _ _ _ _ _ _ us hl => match us, hl with | [_], _ => rfl)⟩
  exact (pms_one (pms_ret (pm_or (pm_call d_is_place_variable (fun z => by cases z) (hr.mono (by omega)) (by rfl) (pma_cons (pm_var 0) pma_nil) (len_cons len_nil)) (pm_one (pm_call d_is_set_variable (fun z => by cases z) (hr.mono (by omega)) (by rfl) (pma_cons (pm_var 0) pma_nil) (len_cons len_nil))))))
/-! ### is_term -/
theorem sc_is_term : FnScope ["value"] ["value"] (defScope s_is_term) := ⟨rfl, rfl, rfl, by decide +kernel, rfl, by decide +kernel, by decide +kernel⟩
theorem ok_is_term (T : Tx K mg wo w) (TP : TxP P K w) : DefOk false P wo K mg base w "is_term" 1 2 fn_is_term := by
  obtain ⟨a, fd, F, hm⟩ := T.f_is_term
  have d_is_place_variable := ok_is_place_variable (P := P) (base := base) T TP
  refine ⟨a, fd, ["value"], rfl, (show FnP false P wo K mg base (1 + 1) a fd _ _ from fn_ok0 T.hT false F sc_is_term (by decide) fun cdv A outer s H E hgu hr => ?_), hm, F.kp, (F.binds fun _ _ _ _ _ _ us hl => match us, hl with | [_], _ => rfl)⟩
  exact (pms_one (pms_ret (pm_and (pm_isiB T.hK T.cok T.isi_str (by rfl) T.n_isinstance (by rfl) T.n_str rfl (pm_var 0)) (pm_one (pm_or (pm_inA T.hK hr (pm_var 0) (pm_gtupS (l := ["left", "right"]) (by rfl) T.w_ENDS)) (pm_one (pm_call d_is_place_variable (fun z => by cases z) (hr.mono (by omega)) (by rfl) (pma_cons (pm_var 0) pma_nil) (len_cons len_nil))))))))
/-! ### is_form -/
theorem sc_is_form : FnScope ["value"] ["value"] (defScope s_is_form) := ⟨rfl, rfl, rfl, by decide +kernel, rfl, by decide +kernel, by decide +kernel⟩
theorem ok_is_form (T : Tx K mg wo w) (TP : TxP P K w) : ∀ n, DefOk false P wo K mg base w "is_form" 1 (n + 3) (fn_is_form n)
  | 0 => by
    obtain ⟨a, fd, F, hm⟩ := T.f_is_form
    exact (def_zero false (a := a) (fd := fd) (ps := ["value"]) (fun _ _ => rfl) rfl hm F.kp (F.binds fun _ _ _ _ _ _ us hl => match us, hl with | [_], _ => rfl)).mono (by omega)
  | n + 1 => by
    have d_is_form := ok_is_form T TP n
    obtain ⟨a, fd, F, hm⟩ := T.f_is_form
    have d_is_variable := ok_is_variable (P := P) (base := base) T TP
    have d_is_term := ok_is_term (P := P) (base := base) T TP
    have d_is_set_variable := ok_is_set_variable (P := P) (base := base) T TP
    refine ⟨a, fd, ["value"], rfl, (show FnP false P wo K mg base (n + 3 + 1) a fd _ _ from fn_ok0 T.hT false F sc_is_form (by decide) fun cdv A outer s H E hgu hr => ?_), hm, F.kp, (F.binds fun _ _ _ _ _ _ us hl => match us, hl with | [_], _ => rfl)⟩
    exact (pms_cons (pms_if (PMW.pt (pmw_or (pmt_not (pmt_val (pm_isiB T.hK T.cok T.isi_tuple (by rfl) T.n_isinstance (by rfl) T.n_tuple rfl (pm_var 0)))) (pmw_or (pmt_notInA T.hK hr (pm_len T.hK (by rfl) T.n_len (pma_cons (pm_var 0) pma_nil)) (pm_tup (pma_cons pm_int (pma_cons pm_int pma_nil)))) (pmw_or1 (pmt_not (pmt_val (pm_isiB T.hK T.cok T.isi_str (by rfl) T.n_isinstance (by rfl) T.n_str rfl (pm_item T.hK (pm_var 0) pm_int)))))))) (pms_one (pms_ret pm_bl)) pms_nil)
      (pms_cons (pms_if (pmt_eq T.hK hr (pm_item T.hK (pm_var 0) pm_int) pm_str) (pms_one (pms_ret (pm_and (pm_eq T.hK hr (pm_len T.hK (by rfl) T.n_len (pma_cons (pm_var 0) pma_nil)) pm_int) (pm_one (pm_call d_is_form (fun z => by cases z) (hr.mono (by omega)) (by rfl) (pma_cons (pm_item T.hK (pm_var 0) pm_int) pma_nil) (len_cons len_nil)))))) pms_nil)
      (pms_cons (pms_if (pmt_ne T.hK hr (pm_len T.hK (by rfl) T.n_len (pma_cons (pm_var 0) pma_nil)) pm_int) (pms_one (pms_ret pm_bl)) pms_nil)
      (pms_cons (pms_match (pm_item T.hK (pm_var 0) pm_int) (.cons (.ors (.cons (.cons .nil))) (pms_one (pms_ret (pm_and (pm_call d_is_term (fun z => by cases z) (hr.mono (by omega)) (by rfl) (pma_cons (pm_item T.hK (pm_var 0) pm_int) pma_nil) (len_cons len_nil)) (pm_one (pm_call d_is_term (fun z => by cases z) (hr.mono (by omega)) (by rfl) (pma_cons (pm_item T.hK (pm_var 0) pm_int) pma_nil) (len_cons len_nil)))))) (.cons .one (pms_one (pms_ret (pm_and (pm_call d_is_term (fun z => by cases z) (hr.mono (by omega)) (by rfl) (pma_cons (pm_item T.hK (pm_var 0) pm_int) pma_nil) (len_cons len_nil)) (pm_one (pm_call d_is_set_variable (fun z => by cases z) (hr.mono (by omega)) (by rfl) (pma_cons (pm_item T.hK (pm_var 0) pm_int) pma_nil) (len_cons len_nil)))))) (.cons (.ors (.cons (.cons .nil))) (pms_one (pms_ret (pm_and (pm_call d_is_form (fun z => by cases z) (hr.mono (by omega)) (by rfl) (pma_cons (pm_item T.hK (pm_var 0) pm_int) pma_nil) (len_cons len_nil)) (pm_one (pm_call d_is_form (fun z => by cases z) (hr.mono (by omega)) (by rfl) (pma_cons (pm_item T.hK (pm_var 0) pm_int) pma_nil) (len_cons len_nil)))))) (.cons (.ors (.cons (.cons .nil))) (pms_one (pms_ret (pm_and (pm_call d_is_variable (fun z => by cases z) (hr.mono (by omega)) (by rfl) (pma_cons (pm_item T.hK (pm_var 0) pm_int) pma_nil) (len_cons len_nil)) (pm_one (pm_call d_is_form (fun z => by cases z) (hr.mono (by omega)) (by rfl) (pma_cons (pm_item T.hK (pm_var 0) pm_int) pma_nil) (len_cons len_nil)))))) .nil)))))
      (pms_one (pms_ret pm_bl))))))
/-! ### inner_forms -/
theorem sc_inner_forms : FnScope ["form"] ["form"] (defScope s_inner_forms) := ⟨rfl, rfl, rfl, by decide +kernel, rfl, by decide +kernel, by decide +kernel⟩
theorem ok_inner_forms (T : Tx K mg wo w) (TP : TxP P K w) : DefOk false P wo K mg base w "inner_forms" 1 1 fn_inner_forms := by
  obtain ⟨a, fd, F, hm⟩ := T.f_inner_forms
  refine ⟨a, fd, ["form"], rfl, (show FnP false P wo K mg base (0 + 1) a fd _ _ from fn_ok0 T.hT false F sc_inner_forms (by decide) fun cdv A outer s H E hgu hr => ?_), hm, F.kp, (F.binds fun _ _ _ _ _ _ us hl => match us, hl with | [_], _ => rfl)⟩
  exact (pms_cons (pms_match (pm_item T.hK (pm_var 0) pm_int) (.cons .one (pms_one (pms_ret (pm_tup (pma_cons (pm_item T.hK (pm_var 0) pm_int) pma_nil)))) (.cons (.ors (.cons (.cons .nil))) (pms_one (pms_ret (pm_tup (pma_cons (pm_item T.hK (pm_var 0) pm_int) (pma_cons (pm_item T.hK (pm_var 0) pm_int) pma_nil))))) (.cons (.ors (.cons (.cons .nil))) (pms_one (pms_ret (pm_tup (pma_cons (pm_item T.hK (pm_var 0) pm_int) pma_nil)))) .nil))))
      (pms_one (pms_ret (pm_tup pma_nil))))
/-! ### is_choice -/
theorem sc_is_choice : FnScope ["form"] ["form"] (defScope s_is_choice) := ⟨rfl, rfl, rfl, by decide +kernel, rfl, by decide +kernel, by decide +kernel⟩
theorem ok_is_choice (T : Tx K mg wo w) (TP : TxP P K w) : DefOk false P wo K mg base w "is_choice" 1 1 fn_is_choice := by
  obtain ⟨a, fd, F, hm⟩ := T.f_is_choice
  refine ⟨a, fd, ["form"], rfl, (show FnP false P wo K mg base (0 + 1) a fd _ _ from fn_ok0 T.hT false F sc_is_choice (by decide) fun cdv A outer s H E hgu hr => ?_), hm, F.kp, (F.binds fun _ _ _ _ _ _ us hl => match us, hl with | [_], _ => rfl)⟩
  exact (pms_one (pms_ret (pm_inA T.hK hr (pm_item T.hK (pm_var 0) pm_int) (pm_tup (pma_cons pm_str (pma_cons pm_str pma_nil))))))
/-! ### measures_of -/
theorem sc_measures_of : FnScope ["form", "inner", "size", "depth", "deep", "more", "lower", "chosen"] ["form"] (defScope s_measures_of) := ⟨rfl, rfl, rfl, by decide +kernel, rfl, by decide +kernel, by decide +kernel⟩
theorem ok_measures_of (T : Tx K mg wo w) (TP : TxP P K w) : ∀ n, DefOk false P wo K mg base w "measures_of" 1 (n + 2) (fn_measures_of n)
  | 0 => by
    obtain ⟨a, fd, F, hm⟩ := T.f_measures_of
    exact (def_zero false (a := a) (fd := fd) (ps := ["form"]) (fun _ _ => rfl) rfl hm F.kp (F.binds fun _ _ _ _ _ _ us hl => match us, hl with | [_], _ => rfl)).mono (by omega)
  | n + 1 => by
    have d_measures_of := ok_measures_of T TP n
    obtain ⟨a, fd, F, hm⟩ := T.f_measures_of
    have d_inner_forms := ok_inner_forms (P := P) (base := base) T TP
    have d_is_choice := ok_is_choice (P := P) (base := base) T TP
    refine ⟨a, fd, ["form"], rfl, (show FnP false P wo K mg base (n + 2 + 1) a fd _ _ from fn_ok0 T.hT false F sc_measures_of (by decide) fun cdv A outer s H E hgu hr => ?_), hm, F.kp, (F.binds fun _ _ _ _ _ _ us hl => match us, hl with | [_], _ => rfl)⟩
    exact (pms_cons (pms_asgG (pm_tup (pma_cons pm_int (pma_cons pm_int (pma_cons pm_int pma_nil)))) (pmg_tup T.hK rfl (pmgs_cons (pmg_name (i := 2) sc_measures_of.nd rfl (by first | exact .inl rfl | exact .inr rfl)) (pmgs_cons (pmg_name (i := 3) sc_measures_of.nd rfl (by first | exact .inl rfl | exact .inr rfl)) (pmgs_cons (pmg_name (i := 4) sc_measures_of.nd rfl (by first | exact .inl rfl | exact .inr rfl)) pmgs_nil)))))
      (pms_cons (pms_for PassesOwn.never rfl (pmi_tup T.hK (pm_call d_inner_forms (fun z => by cases z) (hr.mono (by omega)) (by rfl) (pma_cons (pm_var 0) pma_nil) (len_cons len_nil))) (pmg_name (i := 1) sc_measures_of.nd rfl (by first | exact .inl rfl | exact .inr rfl)) (pms_cons (pms_asgG (pm_call d_measures_of (fun z => by cases z) (hr.mono (by omega)) (by rfl) (pma_cons (pm_var 1) pma_nil) (len_cons len_nil)) (pmg_tup T.hK rfl (pmgs_cons (pmg_name (i := 5) sc_measures_of.nd rfl (by first | exact .inl rfl | exact .inr rfl)) (pmgs_cons (pmg_name (i := 6) sc_measures_of.nd rfl (by first | exact .inl rfl | exact .inr rfl)) (pmgs_cons (pmg_name (i := 7) sc_measures_of.nd rfl (by first | exact .inl rfl | exact .inr rfl)) pmgs_nil)))))
      (pms_one (pms_par3 (i := 2) (j := 3) (l := 4) rfl sc_measures_of.nd rfl rfl rfl (by decide) (by decide) (by decide) rfl rfl rfl (pma_cons (pm_add T.hK (pm_var 2) (pm_var 5)) (pma_cons (pm_max rfl (by rfl) T.n_max (pma_cons (pm_var 3) (pma_cons (pm_var 6) pma_nil))) (pma_cons (pm_max rfl (by rfl) T.n_max (pma_cons (pm_var 4) (pma_cons (pm_var 7) pma_nil))) pma_nil))) (by rfl)))))
      (pms_one (pms_ret (pm_tup (pma_cons (pm_var 2) (pma_cons (pm_add T.hK (pm_var 3) pm_int) (pma_cons (pm_add T.hK (pm_var 4) (pm_int1 (by rfl) T.n_int (pma_cons (pm_call d_is_choice (fun z => by cases z) (hr.mono (by omega)) (by rfl) (pma_cons (pm_var 0) pma_nil) (len_cons len_nil)) pma_nil))) pma_nil))))))))
/-! ### is_small -/
theorem sc_is_small : FnScope ["form", "size", "depth", "deep"] ["form"] (defScope s_is_small) := ⟨rfl, rfl, rfl, by decide +kernel, rfl, by decide +kernel, by decide +kernel⟩
theorem ok_is_small (T : Tx K mg wo w) (TP : TxP P K w) : DefOk false P wo K mg base w "is_small" 1 208 fn_is_small := by
  obtain ⟨a, fd, F, hm⟩ := T.f_is_small
  have d_measures_of := ok_measures_of (P := P) (base := base) T TP 205
  obtain ⟨_, i_MAX_CHOICES⟩ := T.i_MAX_CHOICES
  obtain ⟨_, i_MAX_DEPTH⟩ := T.i_MAX_DEPTH
  obtain ⟨_, i_MAX_FORMS⟩ := T.i_MAX_FORMS
  refine ⟨a, fd, ["form"], rfl, (show FnP false P wo K mg base (207 + 1) a fd _ _ from fn_ok0 T.hT false F sc_is_small (by decide) fun cdv A outer s H E hgu hr => ?_), hm, F.kp, (F.binds fun _ _ _ _ _ _ us hl => match us, hl with | [_], _ => rfl)⟩
  exact (pms_cons (pms_asgG (pm_call d_measures_of (fun z => by cases z) (hr.mono (by omega)) (by rfl) (pma_cons (pm_var 0) pma_nil) (len_cons len_nil)) (pmg_tup T.hK rfl (pmgs_cons (pmg_name (i := 1) sc_is_small.nd rfl (by first | exact .inl rfl | exact .inr rfl)) (pmgs_cons (pmg_name (i := 2) sc_is_small.nd rfl (by first | exact .inl rfl | exact .inr rfl)) (pmgs_cons (pmg_name (i := 3) sc_is_small.nd rfl (by first | exact .inl rfl | exact .inr rfl)) pmgs_nil)))))
      (pms_one (pms_ret (pm_and (pm_le (pm_var 1) (pm_gint (by rfl) i_MAX_FORMS)) (pm_and (pm_le (pm_var 2) (pm_gint (by rfl) i_MAX_DEPTH)) (pm_one (pm_le (pm_var 3) (pm_gint (by rfl) i_MAX_CHOICES))))))))
/-! ### X:Saying.__init__ -/
theorem sc_Saying_uinitu : FnScope ["self", "form", "is_known"] ["self", "form", "is_known"] (defScope s_Saying_uinitu) := ⟨rfl, rfl, rfl, by decide +kernel, rfl, by decide +kernel, by decide +kernel⟩
theorem ok_x_Saying_uinitu (T : Tx K mg wo w) (TP : TxP P K w) : MkXD P wo K mg base w 0 1 209 [.bl false] fn_x_Saying_uinitu := by
  obtain ⟨a, fd, F, hm, hkw⟩ := T.f_Saying_uinitu
  have d_is_form := ok_is_form (P := P) (base := base) T TP 205
  have d_is_small := ok_is_small (P := P) (base := base) T TP
  obtain ⟨ds, hv, hb⟩ := (funD_chk F hkw).binds0 (ps := ["self", "form", "is_known"]) 2 (by decide) rfl (fun D doc pm an cdv ct us ks hl hk => match us, hl, ks, hk with | [_, _], _, [_], _ => ⟨_, _, _, _, _, _, rfl, rfl, rfl⟩)
  refine ⟨⟨a, fd, ["self", "form", "is_known"], ds, _, hm, (show FnOk P wo K mg base (L2.CX P wo) (208 + 1) a fd _ _ from init_okX T.hT F sc_Saying_uinitu (by decide) fun cdv A outer s H E hr tk hpo => ?_), hb, hv, csR_bl _⟩⟩
  exact (pms_cons (pms_if (PMW.pt (pmw_and (pmt_not (pmt_val (pm_var 2))) (pmw_and1 (PMW.pt (pmw_or (pmt_not (pmt_val (pm_call d_is_form (fun z => by cases z) (hr.mono (by omega)) (by rfl) (pma_cons (pm_var 1) pma_nil) (len_cons len_nil)))) (pmw_or1 (pmt_not (pmt_val (pm_call d_is_small (fun z => by cases z) (hr.mono (by omega)) (by rfl) (pma_cons (pm_var 1) pma_nil) (len_cons len_nil)))))))))) (pms_one (pms_raiseE T.hK tk PySem.F.excBase_ValueError T.x0_InvalidSaying (by rfl) T.c_InvalidSaying)) pms_nil)
      (pms_one (pms_fld (i := 0) (c := 0) T.hK T.st_own_form_0 (pm_var 1))))
/-! ### X:FormReader.__init__ -/
theorem sc_FormReader_uinitu : FnScope ["self", "words"] ["self", "words"] (defScope s_FormReader_uinitu) := ⟨rfl, rfl, rfl, by decide +kernel, rfl, by decide +kernel, by decide +kernel⟩
theorem ok_x_FormReader_uinitu (T : Tx K mg wo w) (TP : TxP P K w) : MkR P wo K mg base w 3 1 1 fn_x_FormReader_uinitu := by
  obtain ⟨a, fd, F, hm⟩ := T.f_FormReader_uinitu
  refine ⟨⟨a, fd, ["self", "words"], hm, (show FnOk P wo K mg base (L2.CX P wo) (0 + 1) a fd _ _ from fn_okX T.hT F sc_FormReader_uinitu (by decide) fun cdv A outer s H E hr tk hpo => ?_), (F.binds fun _ _ _ _ _ _ us hl => match us, hl with | [_, _], _ => rfl)⟩⟩
  exact (pms_cons (pms_setR (i := 0) (c := 3) T.hK T.rc_FormReader T.na_FormReader_own_words (pm_var 1))
      (pms_one (pms_setR (i := 0) (c := 3) T.hK T.rc_FormReader T.na_FormReader_own_at pm_int)))
/-! ### L:0 -/
theorem scl_0 : FnScope ["one"] ["one"] ls_0 := ⟨rfl, rfl, rfl, by decide +kernel, rfl, by decide +kernel, by decide +kernel⟩
theorem ok_lam_0 (T : Tx K mg wo w) (TP : TxP P K w) : FvOk P wo K mg base w (.lam 0) 1 3 fn_lam_0 := by
  have d_is_term := ok_is_term (P := P) (base := base) T TP
  exact fv_lam (j := 2) (ps := ["one"]) (N := ["one"]) T.hT T.lo_0 scl_0 (by decide) (fun _ _ _ us hl => match us, hl with | [_], _ => rfl) fun cdv A outer s H E f hr => (pm_or (pm_call d_is_term (fun z => by cases z) (hr.mono (by omega)) (by rfl) (pma_cons (pm_var 0) pma_nil) (len_cons len_nil)) (pm_one (pm_inA T.hK hr (pm_var 0) (pm_tup (pma_cons pm_str (pma_cons pm_str (pma_cons pm_str (pma_cons pm_str pma_nil))))))))
/-! ### L:1 -/
theorem scl_1 : FnScope ["one"] ["one"] ls_1 := ⟨rfl, rfl, rfl, by decide +kernel, rfl, by decide +kernel, by decide +kernel⟩
theorem ok_lam_1 (T : Tx K mg wo w) (TP : TxP P K w) : FvOk P wo K mg base w (.lam 1) 1 1 fn_lam_1 := by
  exact fv_lam (j := 0) (ps := ["one"]) (N := ["one"]) T.hT T.lo_1 scl_1 (by decide) (fun _ _ _ us hl => match us, hl with | [_], _ => rfl) fun cdv A outer s H E f hr => (pm_inA T.hK hr (pm_var 0) (pm_tup (pma_cons pm_str (pma_cons pm_str pma_nil))))
/-! ### L:2 -/
theorem scl_2 : FnScope ["one"] ["one"] ls_2 := ⟨rfl, rfl, rfl, by decide +kernel, rfl, by decide +kernel, by decide +kernel⟩
theorem ok_lam_2 (T : Tx K mg wo w) (TP : TxP P K w) : FvOk P wo K mg base w (.lam 2) 1 1 fn_lam_2 := by
  exact fv_lam (j := 0) (ps := ["one"]) (N := ["one"]) T.hT T.lo_2 scl_2 (by decide) (fun _ _ _ us hl => match us, hl with | [_], _ => rfl) fun cdv A outer s H E f hr => (pm_eq T.hK hr (pm_var 0) pm_str)
/-! ### L:3 -/
theorem scl_3 : FnScope ["one"] ["one"] ls_3 := ⟨rfl, rfl, rfl, by decide +kernel, rfl, by decide +kernel, by decide +kernel⟩
theorem ok_lam_3 (T : Tx K mg wo w) (TP : TxP P K w) : FvOk P wo K mg base w (.lam 3) 1 1 fn_lam_3 := by
  exact fv_lam (j := 0) (ps := ["one"]) (N := ["one"]) T.hT T.lo_3 scl_3 (by decide) (fun _ _ _ us hl => match us, hl with | [_], _ => rfl) fun cdv A outer s H E f hr => (pm_inA T.hK hr (pm_var 0) (pm_tup (pma_cons pm_str (pma_cons pm_str (pma_cons pm_str pma_nil)))))
/-! ### Z:FormReader.take -/
theorem sc_FormReader_take : FnScope ["self", "is_fit", "at"] ["self", "is_fit"] (defScope s_FormReader_take) := ⟨rfl, rfl, rfl, by decide +kernel, rfl, by decide +kernel, by decide +kernel⟩
theorem fv_FormReader_take_is_fitA (T : Tx K mg wo w) (TP : TxP P K w) : ∀ d f, fv_FormReader_take_is_fit d = some f → FvOk P wo K mg base w d 1 3 f := by
  intro d f h
  unfold fv_FormReader_take_is_fit at h
  split at h
  · cases h; exact (ok_lam_0 T TP).mono (by omega)
  · cases h; exact (ok_lam_1 T TP).mono (by omega)
  · cases h; exact (ok_lam_2 T TP).mono (by omega)
  · cases h; exact (ok_lam_3 T TP).mono (by omega)
  · cases h; exact (fv_defOk (ok_is_variable T TP) T.f_is_variable T.c_is_variable).mono (by omega)
  · cases h; exact (fv_defOk (ok_is_set_variable T TP) T.f_is_set_variable T.c_is_set_variable).mono (by omega)
  · cases h; exact (fv_defOk (ok_is_term T TP) T.f_is_term T.c_is_term).mono (by omega)
  · cases h
theorem ok_z_FormReader_take {TT : List (Addr × Str)} (T : Tx K mg wo w) (TP : TxP P K w) (Zs : ∀ x ∈ lamN, ∃ c P, TabXM K base mg TT x c P) : MthTX P wo K mg base (w.wT TT) 3 "take" 2 4 fn_z_FormReader_take := by
  obtain ⟨a, fd, F, hm⟩ := T.f_FormReader_take
  have d_is_variable := ok_is_variable (P := P) (base := base) T TP
  replace d_is_variable := d_is_variable.wT TT
  have d_is_set_variable := ok_is_set_variable (P := P) (base := base) T TP
  replace d_is_set_variable := d_is_set_variable.wT TT
  have d_is_term := ok_is_term (P := P) (base := base) T TP
  replace d_is_term := d_is_term.wT TT
  refine ⟨⟨a, fd, ["self", "is_fit"], hm, (show FnOk P wo K mg base (L2.CX P wo) (3 + 1) a fd _ _ from fn_okTX0 F sc_FormReader_take (by decide) fun cdv A outer s H E hr tk hpo => ?_), (F.binds fun _ _ _ _ _ _ us hl => match us, hl with | [_, _], _ => rfl)⟩⟩
  exact (pms_cons (pms_set (i := 2) sc_FormReader_take.nd rfl (by first | exact .inl rfl | exact .inr rfl) (pm_fldR (i := 0) (c := 3) T.hK (T.rc_FormReader.wT TT) (T.na_FormReader_own_at.wT TT)))
      (pms_cons (pms_if (PMW.pt (pmw_or (pmt_eq T.hK hr (pm_var 2) (pm_len T.hK (by rfl) T.n_len (pma_cons (pm_fldR (i := 0) (c := 3) T.hK (T.rc_FormReader.wT TT) (T.na_FormReader_own_words.wT TT)) pma_nil))) (pmw_or1 (pmt_not (pmt_val (pm_callFv 1 (fun d f h => (fv_FormReader_take_is_fitA (P := P) (base := base) T TP d f h).wT TT) (hr.mono (by omega)) (pma_cons (pm_item T.hK (pm_fldR (i := 0) (c := 3) T.hK (T.rc_FormReader.wT TT) (T.na_FormReader_own_words.wT TT)) (pm_var 2)) pma_nil) (len_cons len_nil))))))) (pms_one (pms_raise1 tk TP.x_ParseError T.n_super (hr.mono (by omega)) (by rfl) T.c_ParseError (pm_var 2))) pms_nil)
      (pms_cons (pms_setR (i := 0) (c := 3) T.hK (T.rc_FormReader.wT TT) (T.na_FormReader_own_at.wT TT) (pm_add T.hK (pm_var 2) pm_int))
      (pms_one (pms_ret (pm_item T.hK (pm_fldR (i := 0) (c := 3) T.hK (T.rc_FormReader.wT TT) (T.na_FormReader_own_words.wT TT)) (pm_var 2)))))))
/-! ### Z:FormReader.take_pair -/
theorem sc_FormReader_take_pair : FnScope ["self", "first", "word", "second"] ["self"] (defScope s_FormReader_take_pair) := ⟨rfl, rfl, rfl, by decide +kernel, rfl, by decide +kernel, by decide +kernel⟩
theorem ok_z_FormReader_take_pair {TT : List (Addr × Str)} (T : Tx K mg wo w) (TP : TxP P K w) (Zs : ∀ x ∈ lamN, ∃ c P, TabXM K base mg TT x c P) {F : Nat → Fn} {n j : Nat} (hj : 5 ≤ j + 1) (z_z_FormReader_take_form : MthTX P wo K mg base (w.wT TT) 3 "take_form" 1 j (F n)) : MthTX P wo K mg base (w.wT TT) 3 "take_pair" 1 (j + 1) (fn_z_FormReader_take_pair F n) := by
  obtain ⟨a, fd, F, hm, hat⟩ := T.f_FormReader_take_pair
  have z_z_FormReader_take := ok_z_FormReader_take (P := P) (base := base) T TP Zs
  obtain ⟨cc, PP, Z⟩ := Zs lk_FormReader_take_pair (by unfold lamN; simp only [List.mem_cons, true_or, or_true])
  refine ⟨⟨a, fd, ["self"], hm, (show FnOk P wo K mg base (L2.CX P wo) (j + 1) a fd _ _ from fn_okTX (Z.code a hat) F sc_FormReader_take_pair (by decide) fun A outer s H E hr tk hpo => ?_), (F.binds fun _ _ _ _ _ _ us hl => match us, hl with | [_], _ => rfl)⟩⟩
  exact (pms_cons (pms_set (i := 1) sc_FormReader_take_pair.nd rfl (by first | exact .inl rfl | exact .inr rfl) (pm_methR0 0 tk T.hK (T.rc_FormReader.wT TT) z_z_FormReader_take_form (hr.mono (by omega))))
      (pms_cons (pms_set (i := 2) sc_FormReader_take_pair.nd rfl (by first | exact .inl rfl | exact .inr rfl) (pm_methR 0 tk T.hK (T.rc_FormReader.wT TT) z_z_FormReader_take (hr.mono (by omega)) (pma_cons (pm_lamV 1 Z.tab rfl rfl rfl (by decide +kernel) Z.mem Z.uni T.lo_1) pma_nil) (len_cons len_nil)))
      (pms_cons (pms_set (i := 3) sc_FormReader_take_pair.nd rfl (by first | exact .inl rfl | exact .inr rfl) (pm_methR0 0 tk T.hK (T.rc_FormReader.wT TT) z_z_FormReader_take_form (hr.mono (by omega))))
      (pms_cons (pms_expr (pm_methR 0 tk T.hK (T.rc_FormReader.wT TT) z_z_FormReader_take (hr.mono (by omega)) (pma_cons (pm_lamV 2 Z.tab rfl rfl rfl (by decide +kernel) Z.mem Z.uni T.lo_2) pma_nil) (len_cons len_nil)))
      (pms_one (pms_ret (pm_tup (pma_cons (pm_var 2) (pma_cons (pm_var 1) (pma_cons (pm_var 3) pma_nil))))))))))
/-! ### Z:FormReader.take_atom -/
theorem sc_FormReader_take_atom : FnScope ["self", "term", "word"] ["self", "term"] (defScope s_FormReader_take_atom) := ⟨rfl, rfl, rfl, by decide +kernel, rfl, by decide +kernel, by decide +kernel⟩
theorem ok_z_FormReader_take_atom {TT : List (Addr × Str)} (T : Tx K mg wo w) (TP : TxP P K w) (Zs : ∀ x ∈ lamN, ∃ c P, TabXM K base mg TT x c P) : MthTX P wo K mg base (w.wT TT) 3 "take_atom" 2 5 fn_z_FormReader_take_atom := by
  obtain ⟨a, fd, F, hm, hat⟩ := T.f_FormReader_take_atom
  have z_z_FormReader_take := ok_z_FormReader_take (P := P) (base := base) T TP Zs
  obtain ⟨cc, PP, Z⟩ := Zs lk_FormReader_take_atom (by unfold lamN; simp only [List.mem_cons, true_or, or_true])
  refine ⟨⟨a, fd, ["self", "term"], hm, (show FnOk P wo K mg base (L2.CX P wo) (4 + 1) a fd _ _ from fn_okTX (Z.code a hat) F sc_FormReader_take_atom (by decide) fun A outer s H E hr tk hpo => ?_), (F.binds fun _ _ _ _ _ _ us hl => match us, hl with | [_, _], _ => rfl)⟩⟩
  exact (pms_cons (pms_set (i := 2) sc_FormReader_take_atom.nd rfl (by first | exact .inl rfl | exact .inr rfl) (pm_methR 0 tk T.hK (T.rc_FormReader.wT TT) z_z_FormReader_take (hr.mono (by omega)) (pma_cons (pm_lamV 3 Z.tab rfl rfl rfl (by decide +kernel) Z.mem Z.uni T.lo_3) pma_nil) (len_cons len_nil)))
      (pms_one (pms_ret (pm_tup (pma_cons (pm_var 2) (pma_cons (pm_var 1) (pma_cons (pm_methR 0 tk T.hK (T.rc_FormReader.wT TT) z_z_FormReader_take (hr.mono (by omega)) (pma_cons (pm_if (pmt_eq T.hK hr (pm_var 2) pm_str) (pm_gcl (by rfl) T.c_is_set_variable) (pm_gcl (by rfl) T.c_is_term)) pma_nil) (len_cons len_nil)) pma_nil)))))))
/-! ### Z:FormReader.take_form -/
theorem sc_FormReader_take_form : FnScope ["self", "word", "variable"] ["self"] (defScope s_FormReader_take_form) := ⟨rfl, rfl, rfl, by decide +kernel, rfl, by decide +kernel, by decide +kernel⟩
theorem ok_z_FormReader_take_form {TT : List (Addr × Str)} (T : Tx K mg wo w) (TP : TxP P K w) (Zs : ∀ x ∈ lamN, ∃ c P, TabXM K base mg TT x c P) : ∀ n, MthTX P wo K mg base (w.wT TT) 3 "take_form" 1 (n + 6) (fn_z_FormReader_take_form n)
  | 0 => by
    obtain ⟨a, fd, F, hm, hat⟩ := T.f_FormReader_take_form
    exact zero_mthTX (a := a) (fd := fd) (ps := ["self"]) (fun _ _ => rfl) rfl hm (F.binds fun _ _ _ _ _ _ us hl => match us, hl with | [_], _ => rfl)
  | 1 => by
    have z_z_FormReader_take_form : MthTX P wo K mg base (w.wT TT) 3 "take_form" 1 6 (fun _ _ => .stuck) := by
      obtain ⟨a, fd, F, hm, hat⟩ := T.f_FormReader_take_form
      exact zero_mthTX (a := a) (fd := fd) (ps := ["self"]) (fun _ _ => rfl) rfl hm (F.binds fun _ _ _ _ _ _ us hl => match us, hl with | [_], _ => rfl)
    have zp_z_FormReader_take_form : MthTX P wo K mg base (w.wT TT) 3 "take_form" 1 5 (fun _ _ => .stuck) := by
      obtain ⟨a, fd, F, hm, hat⟩ := T.f_FormReader_take_form
      exact zero_mthTX (a := a) (fd := fd) (ps := ["self"]) (fun _ _ => rfl) rfl hm (F.binds fun _ _ _ _ _ _ us hl => match us, hl with | [_], _ => rfl)
    obtain ⟨a, fd, F, hm, hat⟩ := T.f_FormReader_take_form
    have z_z_FormReader_take := ok_z_FormReader_take (P := P) (base := base) T TP Zs
    have z_z_FormReader_take_atom := ok_z_FormReader_take_atom (P := P) (base := base) T TP Zs
    obtain ⟨cc, PP, Z⟩ := Zs lk_FormReader_take_form (by unfold lamN; simp only [List.mem_cons, true_or, or_true])
    have z_z_FormReader_take_pair := ok_z_FormReader_take_pair (P := P) (base := base) T TP Zs (F := fun _ _ _ => .stuck) (n := 0) (by omega) zp_z_FormReader_take_form
    refine ⟨⟨a, fd, ["self"], hm, (show FnOk P wo K mg base (L2.CX P wo) (6 + 1) a fd _ _ from fn_okTX (Z.code a hat) F sc_FormReader_take_form (by decide) fun A outer s H E hr tk hpo => ?_), (F.binds fun _ _ _ _ _ _ us hl => match us, hl with | [_], _ => rfl)⟩⟩
    exact (pms_cons (pms_set (i := 1) sc_FormReader_take_form.nd rfl (by first | exact .inl rfl | exact .inr rfl) (pm_methR 0 tk T.hK (T.rc_FormReader.wT TT) z_z_FormReader_take (hr.mono (by omega)) (pma_cons (pm_lamV 0 Z.tab rfl rfl rfl (by decide +kernel) Z.mem Z.uni T.lo_0) pma_nil) (len_cons len_nil)))
      (pms_cons (pms_match (pm_var 1) (.cons .one (pms_one (pms_ret (pm_tup (pma_cons pm_str (pma_cons (pm_methR0 0 tk T.hK (T.rc_FormReader.wT TT) z_z_FormReader_take_form (hr.mono (by omega))) pma_nil))))) (.cons (.ors (.cons (.cons .nil))) (pms_cons (pms_set (i := 2) sc_FormReader_take_form.nd rfl (by first | exact .inl rfl | exact .inr rfl) (pm_methR 0 tk T.hK (T.rc_FormReader.wT TT) z_z_FormReader_take (hr.mono (by omega)) (pma_cons (pm_gcl (by rfl) T.c_is_variable) pma_nil) (len_cons len_nil)))
      (pms_one (pms_ret (pm_tup (pma_cons (pm_var 1) (pma_cons (pm_var 2) (pma_cons (pm_methR0 0 tk T.hK (T.rc_FormReader.wT TT) z_z_FormReader_take_form (hr.mono (by omega))) pma_nil))))))) (.cons .one (pms_one (pms_ret (pm_methR0 0 tk T.hK (T.rc_FormReader.wT TT) z_z_FormReader_take_pair (hr.mono (by omega))))) .nil))))
      (pms_one (pms_ret (pm_methR 0 tk T.hK (T.rc_FormReader.wT TT) z_z_FormReader_take_atom (hr.mono (by omega)) (pma_cons (pm_var 1) pma_nil) (len_cons len_nil))))))
  | n + 2 => by
    have z_z_FormReader_take_form := ok_z_FormReader_take_form T TP Zs (n + 1)
    have zp_z_FormReader_take_form := ok_z_FormReader_take_form T TP Zs n
    obtain ⟨a, fd, F, hm, hat⟩ := T.f_FormReader_take_form
    have z_z_FormReader_take := ok_z_FormReader_take (P := P) (base := base) T TP Zs
    have z_z_FormReader_take_atom := ok_z_FormReader_take_atom (P := P) (base := base) T TP Zs
    obtain ⟨cc, PP, Z⟩ := Zs lk_FormReader_take_form (by unfold lamN; simp only [List.mem_cons, true_or, or_true])
    have z_z_FormReader_take_pair := ok_z_FormReader_take_pair (P := P) (base := base) T TP Zs (F := fun _ => fn_z_FormReader_take_form n) (n := n + 1) (by omega) zp_z_FormReader_take_form
    refine ⟨⟨a, fd, ["self"], hm, (show FnOk P wo K mg base (L2.CX P wo) (n + 1 + 6 + 1) a fd _ _ from fn_okTX (Z.code a hat) F sc_FormReader_take_form (by decide) fun A outer s H E hr tk hpo => ?_), (F.binds fun _ _ _ _ _ _ us hl => match us, hl with | [_], _ => rfl)⟩⟩
    exact (pms_cons (pms_set (i := 1) sc_FormReader_take_form.nd rfl (by first | exact .inl rfl | exact .inr rfl) (pm_methR 0 tk T.hK (T.rc_FormReader.wT TT) z_z_FormReader_take (hr.mono (by omega)) (pma_cons (pm_lamV 0 Z.tab rfl rfl rfl (by decide +kernel) Z.mem Z.uni T.lo_0) pma_nil) (len_cons len_nil)))
      (pms_cons (pms_match (pm_var 1) (.cons .one (pms_one (pms_ret (pm_tup (pma_cons pm_str (pma_cons (pm_methR0 0 tk T.hK (T.rc_FormReader.wT TT) z_z_FormReader_take_form (hr.mono (by omega))) pma_nil))))) (.cons (.ors (.cons (.cons .nil))) (pms_cons (pms_set (i := 2) sc_FormReader_take_form.nd rfl (by first | exact .inl rfl | exact .inr rfl) (pm_methR 0 tk T.hK (T.rc_FormReader.wT TT) z_z_FormReader_take (hr.mono (by omega)) (pma_cons (pm_gcl (by rfl) T.c_is_variable) pma_nil) (len_cons len_nil)))
      (pms_one (pms_ret (pm_tup (pma_cons (pm_var 1) (pma_cons (pm_var 2) (pma_cons (pm_methR0 0 tk T.hK (T.rc_FormReader.wT TT) z_z_FormReader_take_form (hr.mono (by omega))) pma_nil))))))) (.cons .one (pms_one (pms_ret (pm_methR0 0 tk T.hK (T.rc_FormReader.wT TT) z_z_FormReader_take_pair (hr.mono (by omega))))) .nil))))
      (pms_one (pms_ret (pm_methR 0 tk T.hK (T.rc_FormReader.wT TT) z_z_FormReader_take_atom (hr.mono (by omega)) (pma_cons (pm_var 1) pma_nil) (len_cons len_nil))))))
/-! ### Z:form_of -/
theorem sc_form_of : FnScope ["text", "words", "reader", "found"] ["text"] (defScope s_form_of) := ⟨rfl, rfl, rfl, by decide +kernel, rfl, by decide +kernel, by decide +kernel⟩
theorem ok_z_form_of {TT : List (Addr × Str)} (T : Tx K mg wo w) (TP : TxP P K w) (Zs : ∀ x ∈ lamN, ∃ c P, TabXM K base mg TT x c P) : DefTX P wo K mg base (w.wT TT) "form_of" 1 217 fn_z_form_of := by
  obtain ⟨a, fd, F, hm⟩ := T.f_form_of
  have k_x_FormReader_uinitu := ok_x_FormReader_uinitu (P := P) (base := base) T TP
  replace k_x_FormReader_uinitu := k_x_FormReader_uinitu.wT TT
  have z_z_FormReader_take_form := ok_z_FormReader_take_form (P := P) (base := base) T TP Zs 210
  obtain ⟨_, i_MAX_WORDS⟩ := T.i_MAX_WORDS
  refine ⟨a, fd, ["text"], rfl, (show FnOk P wo K mg base (L2.CX P wo) (216 + 1) a fd _ _ from fn_okTX0 F sc_form_of (by decide) fun cdv A outer s H E hr tk hpo => ?_), hm, F.kp, (F.binds fun _ _ _ _ _ _ us hl => match us, hl with | [_], _ => rfl)⟩
  exact (pms_cons (pms_if (pmt_not (pmt_val (pm_isiB T.hK (T.cok.wT TT) T.isi_str (by rfl) T.n_isinstance (by rfl) T.n_str rfl (pm_var 0)))) (pms_one (pms_raise1 tk TP.x_ParseError T.n_super (hr.mono (by omega)) (by rfl) T.c_ParseError pm_non)) pms_nil)
      (pms_cons (pms_set (i := 1) sc_form_of.nd rfl (by first | exact .inl rfl | exact .inr rfl) (pm_split (pm_var 0) pm_str))
      (pms_cons (pms_if (pmt_gt (pm_len T.hK (by rfl) T.n_len (pma_cons (pm_var 1) pma_nil)) (pm_gint (by rfl) i_MAX_WORDS)) (pms_one (pms_raise1 tk TP.x_ParseError T.n_super (hr.mono (by omega)) (by rfl) T.c_ParseError (pm_gint (by rfl) i_MAX_WORDS))) pms_nil)
      (pms_cons (pms_asgR (i := 2) sc_form_of.nd rfl (by first | exact .inl rfl | exact .inr rfl) (pm_makeR tk k_x_FormReader_uinitu (hr.mono (by omega)) (by rfl) T.c_FormReader (pma_cons (pm_var 1) pma_nil) (len_cons len_nil)))
      (pms_cons (pms_set (i := 3) sc_form_of.nd rfl (by first | exact .inl rfl | exact .inr rfl) (pm_methR0 2 tk T.hK (T.rc_FormReader.wT TT) z_z_FormReader_take_form (hr.mono (by omega))))
      (pms_cons (pms_if (pmt_lt (pm_fldR (i := 2) (c := 3) T.hK (T.rc_FormReader.wT TT) (T.na_FormReader_own_at.wT TT)) (pm_len T.hK (by rfl) T.n_len (pma_cons (pm_var 1) pma_nil))) (pms_one (pms_raise1 tk TP.x_ParseError T.n_super (hr.mono (by omega)) (by rfl) T.c_ParseError (pm_fldR (i := 2) (c := 3) T.hK (T.rc_FormReader.wT TT) (T.na_FormReader_own_at.wT TT)))) pms_nil)
      (pms_one (pms_ret (pm_var 3)))))))))
/-! ### Z:Saying.of_text -/
theorem sc_Saying_of_text : FnScope ["cls", "text"] ["cls", "text"] (defScope s_Saying_of_text) := ⟨rfl, rfl, rfl, by decide +kernel, rfl, by decide +kernel, by decide +kernel⟩
theorem ok_z_Saying_of_text {TT : List (Addr × Str)} (T : Tx K mg wo w) (TP : TxP P K w) (Zs : ∀ x ∈ lamN, ∃ c P, TabXM K base mg TT x c P) : CmTX P wo K mg base (w.wT TT) 0 "of_text" 2 218 fn_z_Saying_of_text := by
  obtain ⟨a, fd, F, hm⟩ := T.f_Saying_of_text
  have k_x_Saying_uinitu := ok_x_Saying_uinitu (P := P) (base := base) T TP
  replace k_x_Saying_uinitu := k_x_Saying_uinitu.wT TT
  have z_z_form_of := ok_z_form_of (P := P) (base := base) T TP Zs
  refine ⟨⟨a, fd, ["cls", "text"], ⟨hm.ex⟩, (show FnOk P wo K mg base (L2.CX P wo) (217 + 1) a fd _ _ from fn_okTX0 F sc_Saying_of_text (by decide) fun cdv A outer s H E hr tk hpo => ?_), (F.binds fun _ _ _ _ _ _ us hl => match us, hl with | [_, _], _ => rfl)⟩⟩
  exact (pms_one (pms_ret (pm_makeLXD (i := 0) tk k_x_Saying_uinitu (hr.mono (by omega)) (pma_cons (pm_callTX tk z_z_form_of (hr.mono (by omega)) (by rfl) (pma_cons (pm_var 1) pma_nil) (len_cons len_nil)) pma_nil) (len_cons len_nil))))
/-! ### _law_form_text -/
theorem sc_l_form_text : FnScope ["_law_form", "_law_one", "_law_other"] ["_law_form"] (defScope s_l_form_text) := ⟨rfl, rfl, rfl, by decide +kernel, rfl, by decide +kernel, by decide +kernel⟩
theorem ok_l_form_text (T : Tx K mg wo w) (TP : TxP P K w) : ∀ n, DefOk false P wo K mg base w "_law_form_text" 1 (n + 1) (fn_l_form_text n)
  | 0 => by
    obtain ⟨a, fd, F, hm⟩ := T.f_l_form_text
    exact (def_zero false (a := a) (fd := fd) (ps := ["_law_form"]) (fun _ _ => rfl) rfl hm F.kp (F.binds fun _ _ _ _ _ _ us hl => match us, hl with | [_], _ => rfl)).mono (by omega)
  | n + 1 => by
    have d_l_form_text := ok_l_form_text T TP n
    obtain ⟨a, fd, F, hm⟩ := T.f_l_form_text
    refine ⟨a, fd, ["_law_form"], rfl, (show FnP false P wo K mg base (n + 1 + 1) a fd _ _ from fn_ok0 T.hT false F sc_l_form_text (by decide) fun cdv A outer s H E hgu hr => ?_), hm, F.kp, (F.binds fun _ _ _ _ _ _ us hl => match us, hl with | [_], _ => rfl)⟩
    exact (pms_cons (pms_if (pmt_inA T.hK hr (pm_item T.hK (pm_var 0) pm_int) (pm_tup (pma_cons pm_str (pma_cons pm_str (pma_cons pm_str pma_nil))))) (pms_one (pms_ret (pm_add T.hK (pm_add T.hK (pm_add T.hK (pm_add T.hK (pm_item T.hK (pm_var 0) pm_int) pm_str) (pm_item T.hK (pm_var 0) pm_int)) pm_str) (pm_item T.hK (pm_var 0) pm_int)))) pms_nil)
      (pms_cons (pms_if (pmt_eq T.hK hr (pm_item T.hK (pm_var 0) pm_int) pm_str) (pms_one (pms_ret (pm_add T.hK pm_str (pm_call d_l_form_text (fun z => by cases z) (hr.mono (by omega)) (by rfl) (pma_cons (pm_item T.hK (pm_var 0) pm_int) pma_nil) (len_cons len_nil))))) pms_nil)
      (pms_cons (pms_if (pmt_inA T.hK hr (pm_item T.hK (pm_var 0) pm_int) (pm_tup (pma_cons pm_str (pma_cons pm_str pma_nil)))) (pms_cons (pms_par (i := 1) (j := 2) rfl sc_l_form_text.nd rfl rfl (by decide) rfl rfl (pma_cons (pm_call d_l_form_text (fun z => by cases z) (hr.mono (by omega)) (by rfl) (pma_cons (pm_item T.hK (pm_var 0) pm_int) pma_nil) (len_cons len_nil)) (pma_cons (pm_call d_l_form_text (fun z => by cases z) (hr.mono (by omega)) (by rfl) (pma_cons (pm_item T.hK (pm_var 0) pm_int) pma_nil) (len_cons len_nil)) pma_nil)) (by rfl))
      (pms_one (pms_ret (pm_add T.hK (pm_add T.hK (pm_add T.hK (pm_add T.hK (pm_add T.hK (pm_add T.hK pm_str (pm_var 1)) pm_str) (pm_item T.hK (pm_var 0) pm_int)) pm_str) (pm_var 2)) pm_str)))) pms_nil)
      (pms_one (pms_ret (pm_add T.hK (pm_add T.hK (pm_add T.hK (pm_add T.hK (pm_item T.hK (pm_var 0) pm_int) pm_str) (pm_item T.hK (pm_var 0) pm_int)) pm_str) (pm_call d_l_form_text (fun z => by cases z) (hr.mono (by omega)) (by rfl) (pma_cons (pm_item T.hK (pm_var 0) pm_int) pma_nil) (len_cons len_nil))))))))
/-! ### _law_inner_forms -/
theorem sc_l_inner_forms : FnScope ["_law_form"] ["_law_form"] (defScope s_l_inner_forms) := ⟨rfl, rfl, rfl, by decide +kernel, rfl, by decide +kernel, by decide +kernel⟩
theorem ok_l_inner_forms (T : Tx K mg wo w) (TP : TxP P K w) : DefOk false P wo K mg base w "_law_inner_forms" 1 1 fn_l_inner_forms := by
  obtain ⟨a, fd, F, hm⟩ := T.f_l_inner_forms
  refine ⟨a, fd, ["_law_form"], rfl, (show FnP false P wo K mg base (0 + 1) a fd _ _ from fn_ok0 T.hT false F sc_l_inner_forms (by decide) fun cdv A outer s H E hgu hr => ?_), hm, F.kp, (F.binds fun _ _ _ _ _ _ us hl => match us, hl with | [_], _ => rfl)⟩
  exact (pms_cons (pms_if (pmt_inA T.hK hr (pm_item T.hK (pm_var 0) pm_int) (pm_tup (pma_cons pm_str (pma_cons pm_str (pma_cons pm_str pma_nil))))) (pms_one (pms_ret (pm_lst pma_nil))) pms_nil)
      (pms_one (pms_ret (pm_if (pmt_eq T.hK hr (pm_item T.hK (pm_var 0) pm_int) pm_str) (pm_lst (pma_cons (pm_item T.hK (pm_var 0) pm_int) pma_nil)) (pm_if (pmt_inA T.hK hr (pm_item T.hK (pm_var 0) pm_int) (pm_tup (pma_cons pm_str (pma_cons pm_str pma_nil)))) (pm_lst (pma_cons (pm_item T.hK (pm_var 0) pm_int) pma_nil)) (pm_lst (pma_cons (pm_item T.hK (pm_var 0) pm_int) (pma_cons (pm_item T.hK (pm_var 0) pm_int) pma_nil))))))))
/-! ### _law_size_of -/
theorem sc_l_size_of : FnScope ["_law_form", "_law_one"] ["_law_form"] (defScope s_l_size_of) := ⟨rfl, rfl, rfl, by decide +kernel, rfl, by decide +kernel, by decide +kernel⟩
theorem ok_l_size_of (T : Tx K mg wo w) (TP : TxP P K w) : ∀ n, DefOk false P wo K mg base w "_law_size_of" 1 (n + 2) (fn_l_size_of n)
  | 0 => by
    obtain ⟨a, fd, F, hm⟩ := T.f_l_size_of
    exact (def_zero false (a := a) (fd := fd) (ps := ["_law_form"]) (fun _ _ => rfl) rfl hm F.kp (F.binds fun _ _ _ _ _ _ us hl => match us, hl with | [_], _ => rfl)).mono (by omega)
  | n + 1 => by
    have d_l_size_of := ok_l_size_of T TP n
    obtain ⟨a, fd, F, hm⟩ := T.f_l_size_of
    have d_l_inner_forms := ok_l_inner_forms (P := P) (base := base) T TP
    refine ⟨a, fd, ["_law_form"], rfl, (show FnP false P wo K mg base (n + 2 + 1) a fd _ _ from fn_ok0 T.hT false F sc_l_size_of (by decide) fun cdv A outer s H E hgu hr => ?_), hm, F.kp, (F.binds fun _ _ _ _ _ _ us hl => match us, hl with | [_], _ => rfl)⟩
    exact (pms_one (pms_ret (pm_add T.hK pm_int (pm_sumL T.hK (by rfl) T.n_sum (pma_cons (pm_lc (own := [("_law_one", 1)]) rfl sc_l_size_of.nd (pmi_list T.hK (pm_call d_l_inner_forms (fun z => by cases z) (hr.mono (by omega)) (by rfl) (pma_cons (pm_var 0) pma_nil) (len_cons len_nil))) (blkOk_by (by kernel_rfl)) (by decide) (fun _ _ _ _ _ => (pmg_name (i := 1) sc_l_size_of.nd rfl (by first | exact .inl rfl | exact .inr rfl))) (fun _ _ _ _ _ => pmts_nil) (fun _ _ _ _ _ => (pm_call d_l_size_of (fun z => by cases z) (hr.mono (by omega)) (by rfl) (pma_cons (pm_var 1) pma_nil) (len_cons len_nil)))) pma_nil)))))
/-! ### _law_depth_of -/
theorem sc_l_depth_of : FnScope ["_law_form", "_law_one"] ["_law_form"] (defScope s_l_depth_of) := ⟨rfl, rfl, rfl, by decide +kernel, rfl, by decide +kernel, by decide +kernel⟩
theorem ok_l_depth_of (T : Tx K mg wo w) (TP : TxP P K w) : ∀ n, DefOk false P wo K mg base w "_law_depth_of" 1 (n + 2) (fn_l_depth_of n)
  | 0 => by
    obtain ⟨a, fd, F, hm⟩ := T.f_l_depth_of
    exact (def_zero false (a := a) (fd := fd) (ps := ["_law_form"]) (fun _ _ => rfl) rfl hm F.kp (F.binds fun _ _ _ _ _ _ us hl => match us, hl with | [_], _ => rfl)).mono (by omega)
  | n + 1 => by
    have d_l_depth_of := ok_l_depth_of T TP n
    obtain ⟨a, fd, F, hm⟩ := T.f_l_depth_of
    have d_l_inner_forms := ok_l_inner_forms (P := P) (base := base) T TP
    refine ⟨a, fd, ["_law_form"], rfl, (show FnP false P wo K mg base (n + 2 + 1) a fd _ _ from fn_ok0 T.hT false F sc_l_depth_of (by decide) fun cdv A outer s H E hgu hr => ?_), hm, F.kp, (F.binds fun _ _ _ _ _ _ us hl => match us, hl with | [_], _ => rfl)⟩
    exact (pms_one (pms_ret (pm_add T.hK pm_int (pm_maxL T.hK (by rfl) T.n_max (pma_cons (pm_add T.hK (pm_lst (pma_cons pm_int pma_nil)) (pm_lc (own := [("_law_one", 1)]) rfl sc_l_depth_of.nd (pmi_list T.hK (pm_call d_l_inner_forms (fun z => by cases z) (hr.mono (by omega)) (by rfl) (pma_cons (pm_var 0) pma_nil) (len_cons len_nil))) (blkOk_by (by kernel_rfl)) (by decide) (fun _ _ _ _ _ => (pmg_name (i := 1) sc_l_depth_of.nd rfl (by first | exact .inl rfl | exact .inr rfl))) (fun _ _ _ _ _ => pmts_nil) (fun _ _ _ _ _ => (pm_call d_l_depth_of (fun z => by cases z) (hr.mono (by omega)) (by rfl) (pma_cons (pm_var 1) pma_nil) (len_cons len_nil))))) pma_nil)))))
/-! ### _law_nested -/
theorem sc_l_nested : FnScope ["_law_form", "_law_one"] ["_law_form"] (defScope s_l_nested) := ⟨rfl, rfl, rfl, by decide +kernel, rfl, by decide +kernel, by decide +kernel⟩
theorem ok_l_nested (T : Tx K mg wo w) (TP : TxP P K w) : ∀ n, DefOk false P wo K mg base w "_law_nested" 1 (n + 2) (fn_l_nested n)
  | 0 => by
    obtain ⟨a, fd, F, hm⟩ := T.f_l_nested
    exact (def_zero false (a := a) (fd := fd) (ps := ["_law_form"]) (fun _ _ => rfl) rfl hm F.kp (F.binds fun _ _ _ _ _ _ us hl => match us, hl with | [_], _ => rfl)).mono (by omega)
  | n + 1 => by
    have d_l_nested := ok_l_nested T TP n
    obtain ⟨a, fd, F, hm⟩ := T.f_l_nested
    have d_l_inner_forms := ok_l_inner_forms (P := P) (base := base) T TP
    refine ⟨a, fd, ["_law_form"], rfl, (show FnP false P wo K mg base (n + 2 + 1) a fd _ _ from fn_ok0 T.hT false F sc_l_nested (by decide) fun cdv A outer s H E hgu hr => ?_), hm, F.kp, (F.binds fun _ _ _ _ _ _ us hl => match us, hl with | [_], _ => rfl)⟩
    exact (pms_one (pms_ret (pm_add T.hK (pm_int1 (by rfl) T.n_int (pma_cons (pm_inA T.hK hr (pm_item T.hK (pm_var 0) pm_int) (pm_tup (pma_cons pm_str (pma_cons pm_str pma_nil)))) pma_nil)) (pm_maxL T.hK (by rfl) T.n_max (pma_cons (pm_add T.hK (pm_lst (pma_cons pm_int pma_nil)) (pm_lc (own := [("_law_one", 1)]) rfl sc_l_nested.nd (pmi_list T.hK (pm_call d_l_inner_forms (fun z => by cases z) (hr.mono (by omega)) (by rfl) (pma_cons (pm_var 0) pma_nil) (len_cons len_nil))) (blkOk_by (by kernel_rfl)) (by decide) (fun _ _ _ _ _ => (pmg_name (i := 1) sc_l_nested.nd rfl (by first | exact .inl rfl | exact .inr rfl))) (fun _ _ _ _ _ => pmts_nil) (fun _ _ _ _ _ => (pm_call d_l_nested (fun z => by cases z) (hr.mono (by omega)) (by rfl) (pma_cons (pm_var 1) pma_nil) (len_cons len_nil))))) pma_nil)))))
/-! ### _law_is_small -/
theorem sc_l_is_small : FnScope ["_law_form"] ["_law_form"] (defScope s_l_is_small) := ⟨rfl, rfl, rfl, by decide +kernel, rfl, by decide +kernel, by decide +kernel⟩
theorem ok_l_is_small (T : Tx K mg wo w) (TP : TxP P K w) : DefOk false P wo K mg base w "_law_is_small" 1 15 fn_l_is_small := by
  obtain ⟨a, fd, F, hm⟩ := T.f_l_is_small
  have d_l_size_of := ok_l_size_of (P := P) (base := base) T TP 12
  have d_l_depth_of := ok_l_depth_of (P := P) (base := base) T TP 12
  have d_l_nested := ok_l_nested (P := P) (base := base) T TP 12
  refine ⟨a, fd, ["_law_form"], rfl, (show FnP false P wo K mg base (14 + 1) a fd _ _ from fn_ok0 T.hT false F sc_l_is_small (by decide) fun cdv A outer s H E hgu hr => ?_), hm, F.kp, (F.binds fun _ _ _ _ _ _ us hl => match us, hl with | [_], _ => rfl)⟩
  exact (pms_one (pms_ret (pm_and (pm_lt (pm_call d_l_size_of (fun z => by cases z) (hr.mono (by omega)) (by rfl) (pma_cons (pm_var 0) pma_nil) (len_cons len_nil)) pm_int) (pm_and (pm_lt (pm_call d_l_depth_of (fun z => by cases z) (hr.mono (by omega)) (by rfl) (pma_cons (pm_var 0) pma_nil) (len_cons len_nil)) pm_int) (pm_one (pm_lt (pm_call d_l_nested (fun z => by cases z) (hr.mono (by omega)) (by rfl) (pma_cons (pm_var 0) pma_nil) (len_cons len_nil)) pm_int))))))
/-! ### _law_limits_right -/
theorem sc_l_limits_right : FnScope ["_law_dice_here", "_law_atom", "_law_turn", "_law_name", "_law_wide", "_law_full_here", "_law_told", "_law_due", "_law_sizes", "_law_deep", "_law_nested_here", "_law_one"] ["_law_dice_here"] (defScope s_l_limits_right) := ⟨rfl, rfl, rfl, by decide +kernel, rfl, by decide +kernel, by decide +kernel⟩
theorem ok_l_limits_right {TT : List (Addr × Str)} (T : Tx K mg wo w) (TP : TxP P K w) (Zs : ∀ x ∈ lamN, ∃ c P, TabXM K base mg TT x c P) : DefT P wo K mg base (w.wT TT) "_law_limits_right" 1 222 fn_l_limits_right := by
  obtain ⟨a, fd, F, hm⟩ := T.f_l_limits_right
  have d_l_pick := ok_l_pick (P := P) (base := base) T TP
  replace d_l_pick := d_l_pick.wT TT
  have d_l_full := ok_l_full (P := P) (base := base) T TP 6
  replace d_l_full := d_l_full.wT TT
  obtain ⟨_, _, F_l_word, hm_l_word⟩ := T.f_l_word
  have k_x_Saying_uinitu := ok_x_Saying_uinitu (P := P) (base := base) T TP
  replace k_x_Saying_uinitu := k_x_Saying_uinitu.wT TT
  have z_z_Saying_of_text := ok_z_Saying_of_text (P := P) (base := base) T TP Zs
  have d_l_form_text := ok_l_form_text (P := P) (base := base) T TP 12
  replace d_l_form_text := d_l_form_text.wT TT
  have d_l_is_small := ok_l_is_small (P := P) (base := base) T TP
  replace d_l_is_small := d_l_is_small.wT TT
  have d_l_size_of := ok_l_size_of (P := P) (base := base) T TP 12
  replace d_l_size_of := d_l_size_of.wT TT
  obtain ⟨cc, PP, Z⟩ := Zs lk_l_limits_right (by unfold lamN; simp only [List.mem_cons, true_or, or_true])
  refine ⟨a, fd, ["_law_dice_here"], rfl, (show FnG P wo K mg base CX0 (221 + 1) a fd _ _ from fn_okT (Z.code a (T.at_l_limits_right a hm)) F sc_l_limits_right (by decide) fun A outer s H E hgu hr => ?_), hm, F.kp, (F.binds fun _ _ _ _ _ _ us hl => match us, hl with | [_], _ => rfl)⟩
  exact (pms_cons (pms_set (i := 1) sc_l_limits_right.nd rfl (by first | exact .inl rfl | exact .inr rfl) (pm_callD 0 d_l_pick (fun z => by cases z) (hr.mono (by omega)) (by rfl) (pma_cons (pm_lst (pma_cons (pm_tup (pma_cons pm_str (pma_cons pm_str (pma_cons pm_str pma_nil)))) (pma_cons (pm_tup (pma_cons pm_str (pma_cons pm_str (pma_cons pm_str pma_nil)))) (pma_cons (pm_tup (pma_cons pm_str (pma_cons pm_str (pma_cons pm_str pma_nil)))) (pma_cons (pm_tup (pma_cons pm_str (pma_cons pm_str (pma_cons pm_str pma_nil)))) pma_nil))))) pma_nil) (len_cons len_nil)))
      (pms_cons (pms_asgG (pm_tup (pma_cons (pm_var 1) (pma_cons (pm_var 1) pma_nil))) (pmg_tup T.hK rfl (pmgs_cons (pmg_name (i := 9) sc_l_limits_right.nd rfl (by first | exact .inl rfl | exact .inr rfl)) (pmgs_cons (pmg_name (i := 10) sc_l_limits_right.nd rfl (by first | exact .inl rfl | exact .inr rfl)) pmgs_nil))))
      (pms_cons (pms_for PassesOwn.never rfl (pmi_range1 (by rfl) T.n_range (pma_cons pm_int pma_nil)) (pmg_name (i := 2) sc_l_limits_right.nd rfl (by first | exact .inl rfl | exact .inr rfl)) (pms_one (pms_set (i := 9) sc_l_limits_right.nd rfl (by first | exact .inl rfl | exact .inr rfl) (pm_tup (pma_cons pm_str (pma_cons (pm_var 9) pma_nil))))))
      (pms_cons (pms_for PassesOwn.never rfl (pmi_str pm_str) (pmg_name (i := 3) sc_l_limits_right.nd rfl (by first | exact .inl rfl | exact .inr rfl)) (pms_one (pms_set (i := 10) sc_l_limits_right.nd rfl (by first | exact .inl rfl | exact .inr rfl) (pm_tup (pma_cons (pm_callD 0 d_l_pick (fun z => by cases z) (hr.mono (by omega)) (by rfl) (pma_cons (pm_lst (pma_cons pm_str (pma_cons pm_str pma_nil))) pma_nil) (len_cons len_nil)) (pma_cons (pm_var 3) (pma_cons (pm_var 10) pma_nil)))))))
      (pms_cons (pms_set (i := 4) sc_l_limits_right.nd rfl (by first | exact .inl rfl | exact .inr rfl) (pm_tup (pma_cons pm_str (pma_cons (pm_var 10) (pma_cons (pm_tup (pma_cons pm_str (pma_cons pm_str (pma_cons (pm_var 1) pma_nil)))) pma_nil)))))
      (pms_cons (pms_set (i := 5) sc_l_limits_right.nd rfl (by first | exact .inl rfl | exact .inr rfl) (pm_tup (pma_cons pm_str (pma_cons (pm_tup (pma_cons pm_str (pma_cons (pm_call d_l_full (fun z => by cases z) (hr.mono (by omega)) (by rfl) (pma_cons pm_int (pma_cons (pm_var 1) pma_nil)) (len_cons (len_cons len_nil))) (pma_cons (pm_tup (pma_cons pm_str (pma_cons (pm_tup (pma_cons pm_str (pma_cons (pm_tup (pma_cons pm_str (pma_cons (pm_var 1) pma_nil))) pma_nil))) pma_nil))) pma_nil)))) (pma_cons (pm_tup (pma_cons pm_str (pma_cons (pm_tup (pma_cons pm_str (pma_cons (pm_var 1) pma_nil))) pma_nil))) pma_nil)))))
      (pms_cons (pms_setO (i := 6) sc_l_limits_right.nd rfl (by first | exact .inl rfl | exact .inr rfl) (pm_lst (pma_cons (pm_toldX (n := "e") (L := excL) (cs := tc_l_word) (i := 1) (k := 219) T.hK F_l_word hm_l_word (by rfl) (F_l_word.binds fun _ _ _ _ _ _ us hl => match us, hl with | [_], _ => rfl) rfl sc_l_word rfl (.inl rfl) T.sys hgu (.named rfl T.c_ParseError T.k_ParseError rfl T.n_repr (fun _ _ _ _ => rfl) (fun _ _ _ _ => rfl) (.plain rfl T.c_InvalidSaying .nil)) T.exm (by decide) rfl rfl (fun _ _ => rfl) (fun _ _ => rfl) (fun _ => rfl) Z.tab rfl Z.mem Z.uni (hr.mono (by omega)) (LamX.lamS_by (by kernel_rfl)) rfl (fun _ _ _ _ _ => rfl) (fun A outer s H E f c_ hr tk => (pm_makeXD tk k_x_Saying_uinitu (hr.mono (by omega)) (by rfl) T.c_Saying (pma_cons (pm_var 9) pma_nil) (len_cons len_nil)))) pma_nil)))
      (pms_cons (pms_expr (pm_append 6 T.hK (pma_cons (pm_toldX (n := "e") (L := excL) (cs := tc_l_word) (i := 1) (k := 219) T.hK F_l_word hm_l_word (by rfl) (F_l_word.binds fun _ _ _ _ _ _ us hl => match us, hl with | [_], _ => rfl) rfl sc_l_word rfl (.inl rfl) T.sys hgu (.named rfl T.c_ParseError T.k_ParseError rfl T.n_repr (fun _ _ _ _ => rfl) (fun _ _ _ _ => rfl) (.plain rfl T.c_InvalidSaying .nil)) T.exm (by decide) rfl rfl (fun _ _ => rfl) (fun _ _ => rfl) (fun _ => rfl) Z.tab rfl Z.mem Z.uni (hr.mono (by omega)) (LamX.lamS_by (by kernel_rfl)) rfl (fun _ _ _ _ _ => rfl) (fun A outer s H E f c_ hr tk => (pm_makeXD tk k_x_Saying_uinitu (hr.mono (by omega)) (by rfl) T.c_Saying (pma_cons (pm_tup (pma_cons pm_str (pma_cons (pm_var 9) pma_nil))) pma_nil) (len_cons len_nil)))) pma_nil)))
      (pms_cons (pms_expr (pm_append 6 T.hK (pma_cons (pm_toldX (n := "e") (L := excL) (cs := tc_l_word) (i := 1) (k := 219) T.hK F_l_word hm_l_word (by rfl) (F_l_word.binds fun _ _ _ _ _ _ us hl => match us, hl with | [_], _ => rfl) rfl sc_l_word rfl (.inl rfl) T.sys hgu (.named rfl T.c_ParseError T.k_ParseError rfl T.n_repr (fun _ _ _ _ => rfl) (fun _ _ _ _ => rfl) (.plain rfl T.c_InvalidSaying .nil)) T.exm (by decide) rfl rfl (fun _ _ => rfl) (fun _ _ => rfl) (fun _ => rfl) Z.tab rfl Z.mem Z.uni (hr.mono (by omega)) (LamX.lamS_by (by kernel_rfl)) rfl (fun _ _ _ _ _ => rfl) (fun A outer s H E f c_ hr tk => (pm_makeXD tk k_x_Saying_uinitu (hr.mono (by omega)) (by rfl) T.c_Saying (pma_cons (pm_var 10) pma_nil) (len_cons len_nil)))) pma_nil)))
      (pms_cons (pms_expr (pm_append 6 T.hK (pma_cons (pm_toldX (n := "e") (L := excL) (cs := tc_l_word) (i := 1) (k := 219) T.hK F_l_word hm_l_word (by rfl) (F_l_word.binds fun _ _ _ _ _ _ us hl => match us, hl with | [_], _ => rfl) rfl sc_l_word rfl (.inl rfl) T.sys hgu (.named rfl T.c_ParseError T.k_ParseError rfl T.n_repr (fun _ _ _ _ => rfl) (fun _ _ _ _ => rfl) (.plain rfl T.c_InvalidSaying .nil)) T.exm (by decide) rfl rfl (fun _ _ => rfl) (fun _ _ => rfl) (fun _ => rfl) Z.tab rfl Z.mem Z.uni (hr.mono (by omega)) (LamX.lamS_by (by kernel_rfl)) rfl (fun _ _ _ _ _ => rfl) (fun A outer s H E f c_ hr tk => (pm_makeXD tk k_x_Saying_uinitu (hr.mono (by omega)) (by rfl) T.c_Saying (pma_cons (pm_tup (pma_cons pm_str (pma_cons pm_str (pma_cons (pm_var 10) pma_nil)))) pma_nil) (len_cons len_nil)))) pma_nil)))
      (pms_cons (pms_expr (pm_append 6 T.hK (pma_cons (pm_toldX (n := "e") (L := excL) (cs := tc_l_word) (i := 1) (k := 219) T.hK F_l_word hm_l_word (by rfl) (F_l_word.binds fun _ _ _ _ _ _ us hl => match us, hl with | [_], _ => rfl) rfl sc_l_word rfl (.inl rfl) T.sys hgu (.named rfl T.c_ParseError T.k_ParseError rfl T.n_repr (fun _ _ _ _ => rfl) (fun _ _ _ _ => rfl) (.plain rfl T.c_InvalidSaying .nil)) T.exm (by decide) rfl rfl (fun _ _ => rfl) (fun _ _ => rfl) (fun _ => rfl) Z.tab rfl Z.mem Z.uni (hr.mono (by omega)) (LamX.lamS_by (by kernel_rfl)) rfl (fun _ _ _ _ _ => rfl) (fun A outer s H E f c_ hr tk => (pm_makeXD tk k_x_Saying_uinitu (hr.mono (by omega)) (by rfl) T.c_Saying (pma_cons (pm_var 4) pma_nil) (len_cons len_nil)))) pma_nil)))
      (pms_cons (pms_expr (pm_append 6 T.hK (pma_cons (pm_toldX (n := "e") (L := excL) (cs := tc_l_word) (i := 1) (k := 219) T.hK F_l_word hm_l_word (by rfl) (F_l_word.binds fun _ _ _ _ _ _ us hl => match us, hl with | [_], _ => rfl) rfl sc_l_word rfl (.inl rfl) T.sys hgu (.named rfl T.c_ParseError T.k_ParseError rfl T.n_repr (fun _ _ _ _ => rfl) (fun _ _ _ _ => rfl) (.plain rfl T.c_InvalidSaying .nil)) T.exm (by decide) rfl rfl (fun _ _ => rfl) (fun _ _ => rfl) (fun _ => rfl) Z.tab rfl Z.mem Z.uni (hr.mono (by omega)) (LamX.lamS_by (by kernel_rfl)) rfl (fun _ _ _ _ _ => rfl) (fun A outer s H E f c_ hr tk => (pm_makeXD tk k_x_Saying_uinitu (hr.mono (by omega)) (by rfl) T.c_Saying (pma_cons (pm_var 5) pma_nil) (len_cons len_nil)))) pma_nil)))
      (pms_cons (pms_expr (pm_append 6 T.hK (pma_cons (pm_toldX (n := "e") (L := excL) (cs := tc_l_word) (i := 1) (k := 219) T.hK F_l_word hm_l_word (by rfl) (F_l_word.binds fun _ _ _ _ _ _ us hl => match us, hl with | [_], _ => rfl) rfl sc_l_word rfl (.inl rfl) T.sys hgu (.named rfl T.c_ParseError T.k_ParseError rfl T.n_repr (fun _ _ _ _ => rfl) (fun _ _ _ _ => rfl) (.plain rfl T.c_InvalidSaying .nil)) T.exm (by decide) rfl rfl (fun _ _ => rfl) (fun _ _ => rfl) (fun _ => rfl) Z.tab rfl Z.mem Z.uni (hr.mono (by omega)) (LamX.lamS_by (by kernel_rfl)) rfl (fun _ _ _ _ _ => rfl) (fun A outer s H E f c_ hr tk => (pm_makeXD tk k_x_Saying_uinitu (hr.mono (by omega)) (by rfl) T.c_Saying (pma_cons (pm_tup (pma_cons pm_str (pma_cons (pm_var 5) pma_nil))) pma_nil) (len_cons len_nil)))) pma_nil)))
      (pms_cons (pms_expr (pm_append 6 T.hK (pma_cons (pm_toldX (n := "e") (L := excL) (cs := tc_l_word) (i := 1) (k := 219) T.hK F_l_word hm_l_word (by rfl) (F_l_word.binds fun _ _ _ _ _ _ us hl => match us, hl with | [_], _ => rfl) rfl sc_l_word rfl (.inl rfl) T.sys hgu (.named rfl T.c_ParseError T.k_ParseError rfl T.n_repr (fun _ _ _ _ => rfl) (fun _ _ _ _ => rfl) (.plain rfl T.c_InvalidSaying .nil)) T.exm (by decide) rfl rfl (fun _ _ => rfl) (fun _ _ => rfl) (fun _ => rfl) Z.tab rfl Z.mem Z.uni (hr.mono (by omega)) (LamX.lamS_by (by kernel_rfl)) rfl (fun _ _ _ _ _ => rfl) (fun A outer s H E f c_ hr tk => (pm_makeXD tk k_x_Saying_uinitu (hr.mono (by omega)) (by rfl) T.c_Saying (pma_cons (pm_tup (pma_cons pm_str (pma_cons (pm_var 5) (pma_cons (pm_var 1) pma_nil)))) pma_nil) (len_cons len_nil)))) pma_nil)))
      (pms_cons (pms_expr (pm_append 6 T.hK (pma_cons (pm_toldX (n := "e") (L := excL) (cs := tc_l_word) (i := 1) (k := 219) T.hK F_l_word hm_l_word (by rfl) (F_l_word.binds fun _ _ _ _ _ _ us hl => match us, hl with | [_], _ => rfl) rfl sc_l_word rfl (.inl rfl) T.sys hgu (.named rfl T.c_ParseError T.k_ParseError rfl T.n_repr (fun _ _ _ _ => rfl) (fun _ _ _ _ => rfl) (.plain rfl T.c_InvalidSaying .nil)) T.exm (by decide) rfl rfl (fun _ _ => rfl) (fun _ _ => rfl) (fun _ => rfl) Z.tab rfl Z.mem Z.uni (hr.mono (by omega)) (LamX.lamS_by (by kernel_rfl)) rfl (fun _ _ _ _ _ => rfl) (fun A outer s H E f c_ hr tk => (pm_cmTX tk T.hK z_z_Saying_of_text (hr.mono (by omega)) (by rfl) T.c_Saying (pma_cons (pm_call d_l_form_text (fun z => by cases z) (hr.mono (by omega)) (by rfl) (pma_cons (pm_tup (pma_cons pm_str (pma_cons (pm_var 9) pma_nil))) pma_nil) (len_cons len_nil)) pma_nil) (len_cons len_nil)))) pma_nil)))
      (pms_cons (pms_expr (pm_append 6 T.hK (pma_cons (pm_toldX (n := "e") (L := excL) (cs := tc_l_word) (i := 1) (k := 219) T.hK F_l_word hm_l_word (by rfl) (F_l_word.binds fun _ _ _ _ _ _ us hl => match us, hl with | [_], _ => rfl) rfl sc_l_word rfl (.inl rfl) T.sys hgu (.named rfl T.c_ParseError T.k_ParseError rfl T.n_repr (fun _ _ _ _ => rfl) (fun _ _ _ _ => rfl) (.plain rfl T.c_InvalidSaying .nil)) T.exm (by decide) rfl rfl (fun _ _ => rfl) (fun _ _ => rfl) (fun _ => rfl) Z.tab rfl Z.mem Z.uni (hr.mono (by omega)) (LamX.lamS_by (by kernel_rfl)) rfl (fun _ _ _ _ _ => rfl) (fun A outer s H E f c_ hr tk => (pm_cmTX tk T.hK z_z_Saying_of_text (hr.mono (by omega)) (by rfl) T.c_Saying (pma_cons (pm_call d_l_form_text (fun z => by cases z) (hr.mono (by omega)) (by rfl) (pma_cons (pm_tup (pma_cons pm_str (pma_cons (pm_var 5) (pma_cons (pm_var 1) pma_nil)))) pma_nil) (len_cons len_nil)) pma_nil) (len_cons len_nil)))) pma_nil)))
      (pms_cons (pms_set (i := 7) sc_l_limits_right.nd rfl (by first | exact .inl rfl | exact .inr rfl) (pm_lst (pma_cons pm_str (pma_cons pm_str (pma_cons pm_str (pma_cons pm_str (pma_cons pm_str pma_nil)))))))
      (pms_cons (pms_set (i := 8) sc_l_limits_right.nd rfl (by first | exact .inl rfl | exact .inr rfl) (pm_lst (pma_cons (pm_call d_l_is_small (fun z => by cases z) (hr.mono (by omega)) (by rfl) (pma_cons (pm_var 5) pma_nil) (len_cons len_nil)) (pma_cons (pm_call d_l_is_small (fun z => by cases z) (hr.mono (by omega)) (by rfl) (pma_cons (pm_tup (pma_cons pm_str (pma_cons (pm_var 5) pma_nil))) pma_nil) (len_cons len_nil)) (pma_cons (pm_call d_l_is_small (fun z => by cases z) (hr.mono (by omega)) (by rfl) (pma_cons (pm_tup (pma_cons pm_str (pma_cons (pm_var 5) (pma_cons (pm_var 1) pma_nil)))) pma_nil) (len_cons len_nil)) pma_nil)))))
      (pms_cons (pms_set (i := 7) sc_l_limits_right.nd rfl (by first | exact .inl rfl | exact .inr rfl) (pm_add T.hK (pm_add T.hK (pm_var 7) (pm_lc (own := [("_law_one", 11)]) rfl sc_l_limits_right.nd (pmi_list T.hK (pm_var 8)) (blkOk_by (by kernel_rfl)) (by decide) (fun _ _ _ _ _ => (pmg_name (i := 11) sc_l_limits_right.nd rfl (by first | exact .inl rfl | exact .inr rfl))) (fun _ _ _ _ _ => pmts_nil) (fun _ _ _ _ _ => (pm_if (pmt_val (pm_var 11)) pm_str pm_str)))) (pm_lst (pma_cons pm_str (pma_cons pm_str pma_nil)))))
      (pms_one (pms_ret (pm_and (pm_eq T.hK hr (pm_give 6) (pm_var 7)) (pm_one (pm_eq T.hK hr (pm_lst (pma_cons (pm_call d_l_size_of (fun z => by cases z) (hr.mono (by omega)) (by rfl) (pma_cons (pm_var 5) pma_nil) (len_cons len_nil)) (pma_cons (pm_var 8) pma_nil))) (pm_lst (pma_cons pm_int (pma_cons (pm_lst (pma_cons pm_bl (pma_cons pm_bl (pma_cons pm_bl pma_nil)))) pma_nil)))))))))))))))))))))))))))
/-! ### _law_mixed -/
theorem sc_l_mixed : FnScope ["_law_dice_here", "_law_items", "_law_turn", "_law_left", "_law_found"] ["_law_dice_here", "_law_items"] (defScope s_l_mixed) := ⟨rfl, rfl, rfl, by decide +kernel, rfl, by decide +kernel, by decide +kernel⟩
theorem ok_l_mixed (T : Tx K mg wo w) (TP : TxP P K w) : DefOk false P wo K mg base w "_law_mixed" 2 2 fn_l_mixed := by
  obtain ⟨a, fd, F, hm⟩ := T.f_l_mixed
  have d_l_roll := ok_l_roll (P := P) (base := base) T TP
  refine ⟨a, fd, ["_law_dice_here", "_law_items"], rfl, (show FnP false P wo K mg base (1 + 1) a fd _ _ from fn_ok0 T.hT false F sc_l_mixed (by decide) fun cdv A outer s H E hgu hr => ?_), hm, F.kp, (F.binds fun _ _ _ _ _ _ us hl => match us, hl with | [_, _], _ => rfl)⟩
  exact (pms_cons (pms_parL (i := 3) (j := 4) rfl sc_l_mixed.nd rfl rfl (by decide) rfl rfl (pm_list T.hK (by rfl) T.n_list (pma_cons (pm_var 1) pma_nil)) (by rfl))
      (pms_cons (pms_for PassesOwn.never rfl (pmi_range1 (by rfl) T.n_range (pma_cons (pm_len T.hK (by rfl) T.n_len (pma_cons (pm_var 1) pma_nil)) pma_nil)) (pmg_name (i := 2) sc_l_mixed.nd rfl (by first | exact .inl rfl | exact .inr rfl)) (pms_one (pms_expr (pm_append 4 T.hK (pma_cons (pm_popAt 3 T.hK (pma_cons (pm_callD 0 d_l_roll (fun z => by cases z) (hr.mono (by omega)) (by rfl) (pma_cons (pm_lenO 3 T.hK (by rfl) T.n_len) pma_nil) (len_cons len_nil)) pma_nil)) pma_nil)))))
      (pms_one (pms_retO 4))))
/-! ### _law_values_right -/
theorem sc_l_values_right : FnScope ["_law_dice_here", "_law_atom", "_law_odd", "_law_value"] ["_law_dice_here"] (defScope s_l_values_right) := ⟨rfl, rfl, rfl, by decide +kernel, rfl, by decide +kernel, by decide +kernel⟩
theorem ok_l_values_right {TT : List (Addr × Str)} (T : Tx K mg wo w) (TP : TxP P K w) (Zs : ∀ x ∈ lamN, ∃ c P, TabXM K base mg TT x c P) : DefT P wo K mg base (w.wT TT) "_law_values_right" 1 214 fn_l_values_right := by
  obtain ⟨a, fd, F, hm⟩ := T.f_l_values_right
  have d_l_mixed := ok_l_mixed (P := P) (base := base) T TP
  replace d_l_mixed := d_l_mixed.wT TT
  obtain ⟨_, _, F_l_word, hm_l_word⟩ := T.f_l_word
  have k_x_Saying_uinitu := ok_x_Saying_uinitu (P := P) (base := base) T TP
  replace k_x_Saying_uinitu := k_x_Saying_uinitu.wT TT
  obtain ⟨cc, PP, Z⟩ := Zs lk_l_values_right (by unfold lamN; simp only [List.mem_cons, true_or, or_true])
  refine ⟨a, fd, ["_law_dice_here"], rfl, (show FnG P wo K mg base CX0 (213 + 1) a fd _ _ from fn_okT (Z.code a (T.at_l_values_right a hm)) F sc_l_values_right (by decide) fun A outer s H E hgu hr => ?_), hm, F.kp, (F.binds fun _ _ _ _ _ _ us hl => match us, hl with | [_], _ => rfl)⟩
  exact (pms_cons (pms_set (i := 1) sc_l_values_right.nd rfl (by first | exact .inl rfl | exact .inr rfl) (pm_tup (pma_cons pm_str (pma_cons pm_str (pma_cons pm_str pma_nil)))))
      (pms_cons (pms_set (i := 2) sc_l_values_right.nd rfl (by first | exact .inl rfl | exact .inr rfl) (pm_lst (pma_cons pm_non (pma_cons pm_int (pma_cons pm_str (pma_cons (pm_tup pma_nil) (pma_cons (pm_lst (pma_cons pm_str (pma_cons pm_str (pma_cons pm_str pma_nil)))) (pma_cons (pm_tup (pma_cons pm_str (pma_cons pm_str pma_nil))) (pma_cons (pm_tup (pma_cons pm_str (pma_cons pm_str (pma_cons pm_str (pma_cons pm_str pma_nil))))) (pma_cons (pm_tup (pma_cons pm_str (pma_cons pm_str (pma_cons pm_str pma_nil)))) (pma_cons (pm_tup (pma_cons pm_str (pma_cons pm_str (pma_cons pm_str pma_nil)))) pma_nil)))))))))))
      (pms_cons (pms_set (i := 2) sc_l_values_right.nd rfl (by first | exact .inl rfl | exact .inr rfl) (pm_add T.hK (pm_var 2) (pm_lst (pma_cons (pm_tup (pma_cons pm_str (pma_cons pm_str (pma_cons pm_str pma_nil)))) (pma_cons (pm_tup (pma_cons pm_str (pma_cons pm_str (pma_cons pm_str pma_nil)))) (pma_cons (pm_tup (pma_cons pm_str (pma_cons pm_str (pma_cons pm_str pma_nil)))) (pma_cons (pm_tup (pma_cons pm_str (pma_cons pm_str (pma_cons pm_str pma_nil)))) (pma_cons (pm_tup (pma_cons pm_str (pma_cons pm_int (pma_cons pm_str pma_nil)))) (pma_cons (pm_tup (pma_cons pm_str (pma_cons pm_str (pma_cons pm_str pma_nil)))) (pma_cons pm_dct0 pma_nil))))))))))
      (pms_cons (pms_set (i := 2) sc_l_values_right.nd rfl (by first | exact .inl rfl | exact .inr rfl) (pm_add T.hK (pm_var 2) (pm_lst (pma_cons (pm_tup (pma_cons pm_str pma_nil)) (pma_cons (pm_tup (pma_cons pm_str (pma_cons (pm_var 1) (pma_cons (pm_var 1) pma_nil)))) (pma_cons (pm_tup (pma_cons pm_str (pma_cons pm_non pma_nil))) (pma_cons (pm_tup (pma_cons pm_str (pma_cons (pm_var 1) pma_nil))) (pma_cons (pm_tup (pma_cons pm_str (pma_cons (pm_var 1) (pma_cons (pm_var 1) (pma_cons (pm_var 1) pma_nil))))) (pma_cons (pm_tup (pma_cons pm_str (pma_cons (pm_var 1) (pma_cons pm_str pma_nil)))) pma_nil)))))))))
      (pms_cons (pms_set (i := 2) sc_l_values_right.nd rfl (by first | exact .inl rfl | exact .inr rfl) (pm_add T.hK (pm_var 2) (pm_lst (pma_cons (pm_tup (pma_cons pm_str (pma_cons pm_str pma_nil))) (pma_cons (pm_tup (pma_cons pm_str (pma_cons pm_str (pma_cons (pm_var 1) pma_nil)))) (pma_cons (pm_tup (pma_cons pm_str (pma_cons pm_str (pma_cons (pm_var 1) pma_nil)))) (pma_cons (pm_tup (pma_cons pm_str (pma_cons pm_int (pma_cons (pm_var 1) pma_nil)))) (pma_cons (pm_tup (pma_cons pm_str (pma_cons (pm_var 1) (pma_cons pm_str pma_nil)))) (pma_cons (pm_tup (pma_cons pm_str (pma_cons pm_str (pma_cons (pm_var 1) pma_nil)))) pma_nil)))))))))
      (pms_cons (pms_set (i := 2) sc_l_values_right.nd rfl (by first | exact .inl rfl | exact .inr rfl) (pm_add T.hK (pm_var 2) (pm_lst (pma_cons (pm_tup (pma_cons pm_str (pma_cons (pm_lst (pma_cons pm_str (pma_cons pm_str (pma_cons pm_str pma_nil)))) pma_nil))) (pma_cons (pm_tup (pma_cons (pm_var 1) pma_nil)) (pma_cons (pm_tup (pma_cons pm_str (pma_cons (pm_lst (pma_cons pm_str pma_nil)) (pma_cons (pm_var 1) pma_nil)))) (pma_cons (pm_tup (pma_cons pm_str (pma_cons (pm_tup (pma_cons pm_str pma_nil)) (pma_cons pm_str pma_nil)))) (pma_cons (pm_tup (pma_cons pm_str (pma_cons pm_str (pma_cons pm_str pma_nil)))) (pma_cons pm_bl pma_nil)))))))))
      (pms_one (pms_ret (pm_eq T.hK hr (pm_lc (own := [("_law_value", 3)]) rfl sc_l_values_right.nd (pmi_list T.hK (pm_slice T.hK (pm_callD 0 d_l_mixed (fun z => by cases z) (hr.mono (by omega)) (by rfl) (pma_cons (pm_var 2) pma_nil) (len_cons len_nil)) pmo_none (pmo_some pm_int))) (blkOk_by (by kernel_rfl)) (by decide) (fun _ _ _ _ _ => (pmg_name (i := 3) sc_l_values_right.nd rfl (by first | exact .inl rfl | exact .inr rfl))) (fun _ _ _ _ _ => (pmts_one (pmt_ne T.hK hr (pm_toldX (n := "e") (L := excL) (cs := tc_l_word) (i := 1) (k := 211) T.hK F_l_word hm_l_word (by rfl) (F_l_word.binds fun _ _ _ _ _ _ us hl => match us, hl with | [_], _ => rfl) rfl sc_l_word rfl (.inl rfl) T.sys hgu (.named rfl T.c_ParseError T.k_ParseError rfl T.n_repr (fun _ _ _ _ => rfl) (fun _ _ _ _ => rfl) (.plain rfl T.c_InvalidSaying .nil)) T.exm (by decide) rfl rfl (fun _ _ => rfl) (fun _ _ => rfl) (fun _ => rfl) Z.tab rfl Z.mem Z.uni (hr.mono (by omega)) (LamX.lamS_by (by kernel_rfl)) rfl (fun _ _ _ _ _ => rfl) (fun A outer s H E f c_ hr tk => (pm_makeXD tk k_x_Saying_uinitu (hr.mono (by omega)) (by rfl) T.c_Saying (pma_cons (pm_var 3) pma_nil) (len_cons len_nil)))) pm_str))) (fun _ _ _ _ _ => (pm_var 3))) (pm_lst pma_nil))))))))))
/-! ### law -/
theorem sc_lawX : FnScope ["_law_script", "_law_spot", "_law_told", "_law_dice_here"] ["_law_script"] (defScope s_lawX) := ⟨rfl, rfl, rfl, by decide +kernel, rfl, by decide +kernel, by decide +kernel⟩
theorem top_law {TT : List (Addr × Str)} (T : Tx K mg wo w) : ∃ a fd, mg "law" = some (.ref a) ∧ (∀ (s : Shared) (u : Value), BindsTo s fd ⟨[u], []⟩ [("_law_script", u)]) ∧ ∀ (P : Program) (base : Heap), TxP P K w → (∀ x ∈ lamN, ∃ c P, TabXM K base mg TT x c P) → FnG P wo K mg base CX0 226 a fd ["_law_script"] (spT (w.wT TT) 1 fn_lawX) := by
  obtain ⟨a, fd, F, hm⟩ := T.f_lawX
  refine ⟨a, fd, hm, ?_, fun P base TP Zs => ?_⟩
  · obtain ⟨oc, od, kV, doc, pm, an, cdv, ct, osl, rfl, lk, hcd⟩ := F.ex
    exact fun s u => .of_eq rfl
  have d_l_dice := ok_l_dice (P := P) (base := base) T TP
  replace d_l_dice := d_l_dice.wT TT
  have t_l_limits_right := ok_l_limits_right (P := P) (base := base) T TP Zs
  have t_l_values_right := ok_l_values_right (P := P) (base := base) T TP Zs
  obtain ⟨_, _, F_l_word, hm_l_word⟩ := T.f_l_word
  have z_z_Saying_of_text := ok_z_Saying_of_text (P := P) (base := base) T TP Zs
  obtain ⟨cc, PP, Z⟩ := Zs lk_lawX (by unfold lamN; simp only [List.mem_cons, true_or, or_true])
  obtain ⟨_, i_MAX_CHOICES⟩ := T.i_MAX_CHOICES
  obtain ⟨_, i_MAX_DEPTH⟩ := T.i_MAX_DEPTH
  obtain ⟨_, i_MAX_FORMS⟩ := T.i_MAX_FORMS
  obtain ⟨_, i_MAX_TRIES⟩ := T.i_MAX_TRIES
  obtain ⟨_, i_MAX_WORDS⟩ := T.i_MAX_WORDS
  refine (show FnG P wo K mg base CX0 (225 + 1) a fd _ _ from fn_okT (Z.code a (T.at_lawX a hm)) F sc_lawX (by decide) fun A outer s H E hgu hr => ?_)
  exact (pms_cons (pms_for PassesOwn.never rfl (pmi_range1 (by rfl) T.n_range (pma_cons (pm_max rfl (by rfl) T.n_max (pma_cons pm_int (pma_cons (pm_min rfl (by rfl) T.n_min (pma_cons pm_int (pma_cons (pm_len T.hK (by rfl) T.n_len (pma_cons (pm_var 0) pma_nil)) pma_nil))) pma_nil))) pma_nil)) (pmg_name (i := 1) sc_lawX.nd rfl (by first | exact .inl rfl | exact .inr rfl)) (pms_cons (pms_setO (i := 3) sc_lawX.nd rfl (by first | exact .inl rfl | exact .inr rfl) (pm_call d_l_dice (fun z => by cases z) (hr.mono (by omega)) (by rfl) (pma_cons (pm_var 0) (pma_cons (pm_var 1) pma_nil)) (len_cons (len_cons len_nil))))
      (pms_one (pms_if (PMW.pt (pmw_or (pmt_not (pmt_val (pm_callDT 3 t_l_limits_right hgu (hr.mono (by omega)) (by rfl) pma_nil len_nil))) (pmw_or1 (pmt_not (pmt_val (pm_callDT 3 t_l_values_right hgu (hr.mono (by omega)) (by rfl) pma_nil len_nil)))))) (pms_one (pms_ret pm_bl)) pms_nil))))
      (pms_cons (pms_setO (i := 2) sc_lawX.nd rfl (by first | exact .inl rfl | exact .inr rfl) (pm_lst (pma_cons (pm_toldX (n := "e") (L := excL) (cs := tc_l_word) (i := 1) (k := 223) T.hK F_l_word hm_l_word (by rfl) (F_l_word.binds fun _ _ _ _ _ _ us hl => match us, hl with | [_], _ => rfl) rfl sc_l_word rfl (.inl rfl) T.sys hgu (.named rfl T.c_ParseError T.k_ParseError rfl T.n_repr (fun _ _ _ _ => rfl) (fun _ _ _ _ => rfl) (.plain rfl T.c_InvalidSaying .nil)) T.exm (by decide) rfl rfl (fun _ _ => rfl) (fun _ _ => rfl) (fun _ => rfl) Z.tab rfl Z.mem Z.uni (hr.mono (by omega)) (LamX.lamS_by (by kernel_rfl)) rfl (fun _ _ _ _ _ => rfl) (fun A outer s H E f c_ hr tk => (pm_cmTX tk T.hK z_z_Saying_of_text (hr.mono (by omega)) (by rfl) T.c_Saying (pma_cons (pm_add T.hK (pm_mulS pm_str pm_int) pm_str) pma_nil) (len_cons len_nil)))) pma_nil)))
      (pms_cons (pms_expr (pm_append 2 T.hK (pma_cons (pm_toldX (n := "e") (L := excL) (cs := tc_l_word) (i := 1) (k := 223) T.hK F_l_word hm_l_word (by rfl) (F_l_word.binds fun _ _ _ _ _ _ us hl => match us, hl with | [_], _ => rfl) rfl sc_l_word rfl (.inl rfl) T.sys hgu (.named rfl T.c_ParseError T.k_ParseError rfl T.n_repr (fun _ _ _ _ => rfl) (fun _ _ _ _ => rfl) (.plain rfl T.c_InvalidSaying .nil)) T.exm (by decide) rfl rfl (fun _ _ => rfl) (fun _ _ => rfl) (fun _ => rfl) Z.tab rfl Z.mem Z.uni (hr.mono (by omega)) (LamX.lamS_by (by kernel_rfl)) rfl (fun _ _ _ _ _ => rfl) (fun A outer s H E f c_ hr tk => (pm_cmTX tk T.hK z_z_Saying_of_text (hr.mono (by omega)) (by rfl) T.c_Saying (pma_cons (pm_add T.hK (pm_mulS pm_str pm_int) pm_str) pma_nil) (len_cons len_nil)))) pma_nil)))
      (pms_cons (pms_expr (pm_append 2 T.hK (pma_cons (pm_toldX (n := "e") (L := excL) (cs := tc_l_word) (i := 1) (k := 223) T.hK F_l_word hm_l_word (by rfl) (F_l_word.binds fun _ _ _ _ _ _ us hl => match us, hl with | [_], _ => rfl) rfl sc_l_word rfl (.inl rfl) T.sys hgu (.named rfl T.c_ParseError T.k_ParseError rfl T.n_repr (fun _ _ _ _ => rfl) (fun _ _ _ _ => rfl) (.plain rfl T.c_InvalidSaying .nil)) T.exm (by decide) rfl rfl (fun _ _ => rfl) (fun _ _ => rfl) (fun _ => rfl) Z.tab rfl Z.mem Z.uni (hr.mono (by omega)) (LamX.lamS_by (by kernel_rfl)) rfl (fun _ _ _ _ _ => rfl) (fun A outer s H E f c_ hr tk => (pm_cmTX tk T.hK z_z_Saying_of_text (hr.mono (by omega)) (by rfl) T.c_Saying (pma_cons (pm_add T.hK (pm_mulS pm_str pm_int) pm_str) pma_nil) (len_cons len_nil)))) pma_nil)))
      (pms_one (pms_ret (pm_eq T.hK hr (pm_add T.hK (pm_give 2) (pm_lst (pma_cons (pm_gint (by rfl) i_MAX_FORMS) (pma_cons (pm_gint (by rfl) i_MAX_DEPTH) (pma_cons (pm_gint (by rfl) i_MAX_CHOICES) (pma_cons (pm_gint (by rfl) i_MAX_WORDS) (pma_cons (pm_gint (by rfl) i_MAX_TRIES) pma_nil))))))) (pm_lst (pma_cons pm_str (pma_cons pm_str (pma_cons pm_str (pma_cons pm_int (pma_cons pm_int (pma_cons pm_int (pma_cons pm_int (pma_cons pm_int pma_nil))))))))))))))))
end
end PM.G

namespace PM.G
open PySem PySem.Spec PyProof.Rows L2 PM
def clOf (K : PySem.W.Frag) : Nat → Addr
  | 0 => He.ga K "Saying"
  | 1 => He.ga K "ParseError"
  | 2 => He.ga K "InvalidSaying"
  | 3 => He.ga K "FormReader"
  | 4 => He.ga K "is_variable"
  | 5 => He.ga K "is_set_variable"
  | 6 => He.ga K "is_term"
  | _ => 0
def loOf : Nat → PySem.Str × Arguments × Expr × Scope
  | 0 => (lq_0, lp_0, le_0, ls_0)
  | 1 => (lq_1, lp_1, le_1, ls_1)
  | 2 => (lq_2, lp_2, le_2, ls_2)
  | 3 => (lq_3, lp_3, le_3, ls_3)
  | _ => ("", defArgs (.Pass ⟨0, 0, 0, 0⟩), .Constant .none 0 ⟨0, 0, 0, 0⟩, defScope (.Pass ⟨0, 0, 0, 0⟩))
abbrev wd (K : PySem.W.Frag) (wo : World) : Wd := ⟨K, clOf K, wo, [], loOf⟩
theorem tx {K : PySem.W.Frag} {hp : Heap} {mg : Str → Option Value} {wo : World} (X : K.In hp) (G : hp.Ns mainGlobals mg) (c : SaysM cs fns tabs wo K) : Tx K mg wo (wd K wo) where
  hK := rfl
  hT := rfl
  hW := rfl
  cok := ⟨fun cc hc => by
      match cc, hc with
      | 0, _ => exact sclsB_ok (c.fact 0)
      | n + 1, hc => exact absurd hc (by omega), fun cc hc => by
      match cc, hc with
      | 0, _ => exact sisiB_ok (c.fact 1)
      | n + 1, hc => exact absurd hc (by omega)⟩
  lo_0 := rfl
  lo_1 := rfl
  lo_2 := rfl
  lo_3 := rfl
  rc_FormReader := rcB_ok rfl rfl (c.fact 2)
  na_FormReader_own_at := naB_ok rfl rfl (c.fact 3)
  na_FormReader_own_words := naB_ok rfl rfl (c.fact 4)
  w_ENDS := ⟨_, He.glo_ok X G (c.fact 5), wtB_ok rfl (c.fact 6)⟩
  at_l_limits_right := fun f h => by
      rw [He.glo_ok X G (c.fact 7)] at h
      cases h
      rfl
  at_l_values_right := fun f h => by
      rw [He.glo_ok X G (c.fact 8)] at h
      cases h
      rfl
  at_lawX := fun f h => by
      rw [He.glo_ok X G (c.fact 9)] at h
      cases h
      rfl
  n_abs := He.free_ok X G (c.fact 10)
  n_int := He.free_ok X G (c.fact 11)
  n_isinstance := He.free_ok X G (c.fact 12)
  n_len := He.free_ok X G (c.fact 13)
  n_list := He.free_ok X G (c.fact 14)
  n_max := He.free_ok X G (c.fact 15)
  n_min := He.free_ok X G (c.fact 16)
  n_range := He.free_ok X G (c.fact 17)
  n_repr := He.free_ok X G (c.fact 18)
  n_str := He.free_ok X G (c.fact 19)
  n_sum := He.free_ok X G (c.fact 20)
  n_tuple := He.free_ok X G (c.fact 21)
  i_MAX_CHOICES := He.int_ok X G (c.fact 22)
  i_MAX_DEPTH := He.int_ok X G (c.fact 23)
  i_MAX_FORMS := He.int_ok X G (c.fact 24)
  i_MAX_TRIES := He.int_ok X G (c.fact 25)
  i_MAX_WORDS := He.int_ok X G (c.fact 26)
  i_GREAT_LETTERS := He.str_ok X G (c.fact 27)
  i_SMALL_LETTERS := He.str_ok X G (c.fact 28)
  c_FormReader := He.glo_ok X G (c.fact 29)
  c_InvalidSaying := He.glo_ok X G (c.fact 30)
  c_ParseError := He.glo_ok X G (c.fact 31)
  c_Saying := He.glo_ok X G (c.fact 32)
  c_is_set_variable := He.glo_ok X G (c.fact 33)
  c_is_term := He.glo_ok X G (c.fact 34)
  c_is_variable := He.glo_ok X G (c.fact 35)
  n_super := He.free_ok X G (c.fact 36)
  k_ParseError := clkB_ok (c.fact 37)
  exm := exmsB_ok (xn := xnL) (c.fact 38) ⟨rfl, rfl, trivial⟩
  sys := (c.fact 39)
  x0_InvalidSaying := err0B_ok (c.fact 40)
  isi_str := fun t b e => by
      unfold ans_str at e
      split at e
      · cases e; exact kitB_ok (c.fact 41)
      · cases e; exact kitB_ok (c.fact 42)
      · cases e; exact kitB_ok (c.fact 43)
      · cases e; exact kitB_ok (c.fact 44)
      · cases e; exact kitB_ok (c.fact 45)
      · cases e; exact kitB_ok (c.fact 46)
      · cases e; exact kitB_ok (c.fact 47)
      · cases e; exact kitB_ok (c.fact 48)
      · cases e
  isi_tuple := fun t b e => by
      unfold ans_tuple at e
      split at e
      · cases e; exact kitB_ok (c.fact 49)
      · cases e; exact kitB_ok (c.fact 50)
      · cases e; exact kitB_ok (c.fact 51)
      · cases e; exact kitB_ok (c.fact 52)
      · cases e; exact kitB_ok (c.fact 53)
      · cases e; exact kitB_ok (c.fact 54)
      · cases e; exact kitB_ok (c.fact 55)
      · cases e; exact kitB_ok (c.fact 56)
      · cases e
  st_own_form_0 := ⟨sclsB_ok (c.fact 0), slotB_ok (c.fact 57)⟩
  f_l_dice := by
      obtain ⟨fd, F⟩ := c.def_ 0
      exact ⟨_, fd, F, He.glo_ok X G (c.fact 58)⟩
  f_l_roll := by
      obtain ⟨fd, F⟩ := c.def_ 1
      exact ⟨_, fd, F, He.glo_ok X G (c.fact 59)⟩
  f_l_pick := by
      obtain ⟨fd, F⟩ := c.def_ 2
      exact ⟨_, fd, F, He.glo_ok X G (c.fact 60)⟩
  f_l_full := by
      obtain ⟨fd, F⟩ := c.def_ 3
      exact ⟨_, fd, F, He.glo_ok X G (c.fact 61)⟩
  f_l_word := by
      obtain ⟨fd, F⟩ := c.def_ 4
      exact ⟨_, fd, F, He.glo_ok X G (c.fact 62)⟩
  f_is_place_variable := by
      obtain ⟨fd, F⟩ := c.def_ 5
      exact ⟨_, fd, F, He.glo_ok X G (c.fact 63)⟩
  f_is_set_variable := by
      obtain ⟨fd, F⟩ := c.def_ 6
      exact ⟨_, fd, F, He.glo_ok X G (c.fact 33)⟩
  f_is_variable := by
      obtain ⟨fd, F⟩ := c.def_ 7
      exact ⟨_, fd, F, He.glo_ok X G (c.fact 35)⟩
  f_is_term := by
      obtain ⟨fd, F⟩ := c.def_ 8
      exact ⟨_, fd, F, He.glo_ok X G (c.fact 34)⟩
  f_is_form := by
      obtain ⟨fd, F⟩ := c.def_ 9
      exact ⟨_, fd, F, He.glo_ok X G (c.fact 64)⟩
  f_inner_forms := by
      obtain ⟨fd, F⟩ := c.def_ 10
      exact ⟨_, fd, F, He.glo_ok X G (c.fact 65)⟩
  f_is_choice := by
      obtain ⟨fd, F⟩ := c.def_ 11
      exact ⟨_, fd, F, He.glo_ok X G (c.fact 66)⟩
  f_measures_of := by
      obtain ⟨fd, F⟩ := c.def_ 12
      exact ⟨_, fd, F, He.glo_ok X G (c.fact 67)⟩
  f_is_small := by
      obtain ⟨fd, F⟩ := c.def_ 13
      exact ⟨_, fd, F, He.glo_ok X G (c.fact 68)⟩
  f_Saying_uinitu := by
      obtain ⟨fd, F⟩ := c.def_ 14
      exact ⟨_, fd, F, mkB_ok rfl (c.fact 69), (show kwmB "Saying" [("is_known", .bl false)] K = true from (c.fact 70))⟩
  f_FormReader_uinitu := by
      obtain ⟨fd, F⟩ := c.def_ 15
      exact ⟨_, fd, F, mkB_ok rfl (c.fact 71)⟩
  f_FormReader_take := by
      obtain ⟨fd, F⟩ := c.def_ 16
      exact ⟨_, fd, F, rmethB_ok rfl (c.fact 72)⟩
  f_FormReader_take_pair := by
      obtain ⟨fd, F⟩ := c.def_ 17
      exact ⟨_, fd, F, rmethB_ok rfl (c.fact 73), rfl⟩
  f_FormReader_take_atom := by
      obtain ⟨fd, F⟩ := c.def_ 18
      exact ⟨_, fd, F, rmethB_ok rfl (c.fact 74), rfl⟩
  f_FormReader_take_form := by
      obtain ⟨fd, F⟩ := c.def_ 19
      exact ⟨_, fd, F, rmethB_ok rfl (c.fact 75), rfl⟩
  f_form_of := by
      obtain ⟨fd, F⟩ := c.def_ 20
      exact ⟨_, fd, F, He.glo_ok X G (c.fact 76)⟩
  f_Saying_of_text := by
      obtain ⟨fd, F⟩ := c.def_ 21
      exact ⟨_, fd, F, cmB_ok rfl rfl (c.fact 77)⟩
  f_l_form_text := by
      obtain ⟨fd, F⟩ := c.def_ 22
      exact ⟨_, fd, F, He.glo_ok X G (c.fact 78)⟩
  f_l_inner_forms := by
      obtain ⟨fd, F⟩ := c.def_ 23
      exact ⟨_, fd, F, He.glo_ok X G (c.fact 79)⟩
  f_l_size_of := by
      obtain ⟨fd, F⟩ := c.def_ 24
      exact ⟨_, fd, F, He.glo_ok X G (c.fact 80)⟩
  f_l_depth_of := by
      obtain ⟨fd, F⟩ := c.def_ 25
      exact ⟨_, fd, F, He.glo_ok X G (c.fact 81)⟩
  f_l_nested := by
      obtain ⟨fd, F⟩ := c.def_ 26
      exact ⟨_, fd, F, He.glo_ok X G (c.fact 82)⟩
  f_l_is_small := by
      obtain ⟨fd, F⟩ := c.def_ 27
      exact ⟨_, fd, F, He.glo_ok X G (c.fact 83)⟩
  f_l_limits_right := by
      obtain ⟨fd, F⟩ := c.def_ 28
      exact ⟨_, fd, F, He.glo_ok X G (c.fact 7)⟩
  f_l_mixed := by
      obtain ⟨fd, F⟩ := c.def_ 29
      exact ⟨_, fd, F, He.glo_ok X G (c.fact 84)⟩
  f_l_values_right := by
      obtain ⟨fd, F⟩ := c.def_ 30
      exact ⟨_, fd, F, He.glo_ok X G (c.fact 8)⟩
  f_lawX := by
      obtain ⟨fd, F⟩ := c.def_ 31
      exact ⟨_, fd, F, He.glo_ok X G (c.fact 9)⟩
theorem ss_ParseError : SupS PySem.Challenge.rw_seamsayings_k21_limits_of_sayings.prog si_ParseError sb_ParseError ("ParseError" ++ ".__init__") PySem.Challenge.rw_seamsayings_k21_limits_of_sayings.prog.main.file := ⟨rfl, rfl, by decide +kernel, rfl, rfl, rfl, by decide +kernel, rfl, rfl, rfl, rfl, by decide +kernel, beq_self_eq_true _, fun _ _ _ _ _ _ _ us hl => match us, hl with | [_, _], _ => rfl, fun _ _ _ _ => rfl, fun _ _ _ _ => rfl, fun _ _ _ _ => rfl, fun _ _ _ _ => ⟨_, rfl⟩, by decide +kernel, by decide +kernel⟩
theorem txp {K : PySem.W.Frag} {wo : World} (c : SaysX cs fns fcs tabs wo K) : TxP PySem.Challenge.rw_seamsayings_k21_limits_of_sayings.prog K (wd K wo) where
  x_ParseError := err_ok ss_ParseError rfl (c.m.1.fact 85) (c.cl 0).1 (c.cl 0).2 PySem.W.kxs_ValueError (iniF_of PySem.F.excBase_ValueError) (newF_of PySem.F.excBase_ValueError) PySem.F.store_ValueError.passes
end PM.G

namespace PM.G
open PySem PySem.Spec L2 PM
open PySem.PyData (strOk)
theorem seq_nx {a b : MS} {ρ ρ1 : En} (h : a ρ = .ok .nx ρ1) : mSeq a b ρ = b ρ1 := by unfold mSeq; rw [h]
theorem loop_nx {g : MG} {b : MS} {d : D} {ds : List D} {ρ ρ1 ρ2 : En} (h : g d ρ = some ρ1) (h2 : b ρ1 = .ok .nx ρ2) : mLoop g b (d :: ds) ρ = mLoop g b ds ρ2 := by
  conv => lhs; unfold mLoop
  rw [h]
  simp only [h2]
theorem lenT (x : List D) : lenD (.tup x) = some (dI (x.length : Nat)) := rfl
theorem lenL (x : List D) : lenD (.lst x) = some (dI (x.length : Nat)) := rfl
theorem lenSc (x : List D) : lenD (.scr x) = some (dI (x.length : Nat)) := rfl
theorem big : sizeLine = 16777216 := rfl
theorem at0 {α : Type} (x : α) (xs : List α) : atI (x :: xs) 0 = some x := by simp [atI, ixN]
theorem at1 {α : Type} (x y : α) (xs : List α) : atI (x :: y :: xs) 1 = some y := by
  have : (1 : Int) < (xs.length : Int) + 1 + 1 := by omega
  simp [atI, ixN, this]
theorem at2 {α : Type} (x y z : α) (xs : List α) : atI (x :: y :: z :: xs) 2 = some z := by
  have : (2 : Int) < (xs.length : Int) + 1 + 1 + 1 := by omega
  simp [atI, ixN, this]
theorem l0 : Str.empty.length = 0 := rfl
theorem int2_int (g : Int → Int → Vl) (i j : Int) : int2 g (.int i) (.int j) = some (g i j) := rfl
theorem ltI_int (i j : Int) : ltI (.int i) (.int j) = some (dB (decide (i < j))) := rfl
theorem gtI_int (i j : Int) : gtI (.int i) (.int j) = some (dB (decide (j < i))) := rfl
def DiceK (k : Nat) (m : Mu) : Prop := ∃ a b c : Int, m = .lst [.int a, .int b, .int c] ∧ 0 ≤ a ∧ a < 10 ^ 121 ∧ 0 ≤ b ∧ b < 2 ^ 90 ∧ 0 ≤ c ∧ c ≤ k
theorem lg {n k : Nat} (h : n < 2 ^ k) (hk : 0 < k) : n.log2 < k := by
  by_cases e : n = 0
  · subst e
    exact hk
  · exact (Nat.log2_lt e).mpr h
theorem mul_ok {i j : Int} (hi : i.natAbs < 2 ^ 400) (hj : j.natAbs < 2 ^ 400) : mulD (.int i) (.int j) = some (dI (i * j)) := by
  have h1 := lg hi (by decide)
  have h2 := lg hj (by decide)
  unfold mulD int2c
  simp only
  rw [if_pos]
  unfold mulC
  exact decide_eq_true (by omega)
theorem mod_ok {i j : Int} (h : 0 < j) : modD (.int i) (.int j) = some (dI (i % j)) := by
  unfold modD int2c
  simp only
  rw [if_pos]
  exact decide_eq_true h
theorem div_ok {i j : Int} (h : 0 < j) (hj : j.natAbs < 2 ^ 400) : divD (.int i) (.int j) = some (dI (i / j)) := by
  have h2 := lg hj (by decide)
  unfold divD int2c
  simp only
  rw [if_pos]
  exact decide_eq_true ⟨h, by omega⟩
theorem n30 : ixN 3 0 = some 0 := rfl
theorem n32 : ixN 3 2 = some 2 := rfl
theorem roll_ok (m : Mu) (k : Nat) (t : Int) (ht : 0 < t) (ht2 : t < 2 ^ 250) (hk : k ≤ 1000000) (h : DiceK k m) : ∃ r m', fn_l_roll (some m) [.int t] = .ret (.int r, false) (some m') ∧ 0 ≤ r ∧ r < t ∧ DiceK (k + 1) m' := by
  obtain ⟨a, b, c, rfl, ha, ha2, hb, hb2, hc, hc2⟩ := h
  have d1 := div_ok (i := a) ht (by omega)
  have m1 := mod_ok (i := a) ht
  by_cases pos : 0 < a
  · have g : decide ((0 : Int) < a) = true := decide_eq_true pos
    refine ⟨a % t, .lst [.int (a / t), .int b, .int c], ?_, Int.emod_nonneg _ (by omega), Int.emod_lt_of_pos _ ht, a / t, b, c, rfl, ?_, ?_, hb, hb2, hc, by omega⟩
    · simp only [fn_l_roll, m_l_roll, mItemO, mBehind, mSetItem, at0, at1, at2, n30, gtI_int, g, m1, d1, noX, fnSem, en0, pre0, ioOf, mSeq, mIfS, mRet, mRetN, mAsg, mAsgO, mExpr, mNext, mDead, mTest, mAnd, mOr, mNot, mIf, mAndV, mOrV, mNotV, notD, mChain, mOp1, mOp2, mC, mVar, mCall, mCons, mNil, mTup, mLst, mStar, mCallV, mCallD, mPar, mAsgG, gT, gTs, gN, setV, notIo, nxt, Rs.bind, lift, asB, one1, two1, ixD, addD, subD, lenT, lenL, lenSc, tupD, intD, eq0, dI, dB, dS, List.length_cons, List.length_nil, List.map_cons, List.map_nil, List.append_nil, List.nil_append, List.cons_append, List.getElem?_cons_zero, List.getElem?_cons_succ, List.set_cons_zero, List.set_cons_succ, List.replicate, Option.bind_some, Option.map_some, Option.bind, Nat.zero_add, Nat.add_zero, Nat.reduceAdd, Nat.reduceSub, Nat.reduceEqDiff, if_true, if_false, reduceIte, Bool.false_eq_true, Bool.not_true, Bool.not_false, Nat.reduceLT, decide_true, decide_false, mSetF, clsAt, fldS, muOf, Sl.get, Sl.put, putD, mSetFs, fldsT, fldsS, allS, mMake, mMakeL, mCm, fnN, mJs, itSeq, mMeth, beq_self_eq_true, and_self, List.isEmpty_nil, List.isEmpty_cons, Option.map, big, Nat.reduceLeDiff, Nat.zero_le, Nat.le_refl]
    · exact Int.ediv_nonneg ha (by omega)
    · exact Int.lt_of_le_of_lt (Int.ediv_le_self _ ha) ha2
  · have g : decide ((0 : Int) < a) = false := decide_eq_false pos
    have e1 : mulD (.int 49979687) (.int (c + 1)) = some (dI (49979687 * (c + 1))) := mul_ok (by decide) (by omega)
    have e2 : modD (.int (b + 49979687 * (c + 1))) (.int 2305843009213693669) = some (dI ((b + 49979687 * (c + 1)) % 2305843009213693669)) := mod_ok (by decide)
    have o0 : 0 ≤ (b + 49979687 * (c + 1)) % 2305843009213693669 := Int.emod_nonneg _ (by decide)
    have o1 : (b + 49979687 * (c + 1)) % 2305843009213693669 < 2305843009213693669 := Int.emod_lt_of_pos _ (by decide)
    generalize (b + 49979687 * (c + 1)) % 2305843009213693669 = one at e2 o0 o1
    have e3 : mulD (.int one) (.int one) = some (dI (one * one)) := mul_ok (by omega) (by omega)
    have e4 : mulD (.int 89) (.int (c + 1)) = some (dI (89 * (c + 1))) := mul_ok (by decide) (by omega)
    have e5 : modD (.int (one * one + 89 * (c + 1))) (.int 2305843009213693907) = some (dI ((one * one + 89 * (c + 1)) % 2305843009213693907)) := mod_ok (by decide)
    have p0 : 0 ≤ (one * one + 89 * (c + 1)) % 2305843009213693907 := Int.emod_nonneg _ (by decide)
    have p1 : (one * one + 89 * (c + 1)) % 2305843009213693907 < 2305843009213693907 := Int.emod_lt_of_pos _ (by decide)
    generalize (one * one + 89 * (c + 1)) % 2305843009213693907 = pp at e5 p0 p1
    have e6 : mulD (.int pp) (.int 7368791) = some (dI (pp * 7368791)) := mul_ok (by omega) (by decide)
    have e7 : divD (.int (pp * 7368791 + one)) (.int 65536) = some (dI ((pp * 7368791 + one) / 65536)) := div_ok (by decide) (by decide)
    have e8 : modD (.int ((pp * 7368791 + one) / 65536)) (.int t) = some (dI ((pp * 7368791 + one) / 65536 % t)) := mod_ok ht
    refine ⟨(pp * 7368791 + one) / 65536 % t, .lst [.int a, .int b, .int (c + 1)], ?_, Int.emod_nonneg _ (by omega), Int.emod_lt_of_pos _ ht, a, b, c + 1, rfl, ha, ha2, hb, hb2, by omega, by omega⟩
    simp only [fn_l_roll, m_l_roll, mItemO, mBehind, mSetItem, at0, at1, at2, n32, gtI_int, g, e1, e2, e3, e4, e5, e6, e7, e8, noX, fnSem, en0, pre0, ioOf, mSeq, mIfS, mRet, mRetN, mAsg, mAsgO, mExpr, mNext, mDead, mTest, mAnd, mOr, mNot, mIf, mAndV, mOrV, mNotV, notD, mChain, mOp1, mOp2, mC, mVar, mCall, mCons, mNil, mTup, mLst, mStar, mCallV, mCallD, mPar, mAsgG, gT, gTs, gN, setV, notIo, nxt, Rs.bind, lift, asB, one1, two1, ixD, addD, subD, lenT, lenL, lenSc, tupD, intD, eq0, dI, dB, dS, List.length_cons, List.length_nil, List.map_cons, List.map_nil, List.append_nil, List.nil_append, List.cons_append, List.getElem?_cons_zero, List.getElem?_cons_succ, List.set_cons_zero, List.set_cons_succ, List.replicate, Option.bind_some, Option.map_some, Option.bind, Nat.zero_add, Nat.add_zero, Nat.reduceAdd, Nat.reduceSub, Nat.reduceEqDiff, if_true, if_false, reduceIte, Bool.false_eq_true, Bool.not_true, Bool.not_false, Nat.reduceLT, decide_true, decide_false, mSetF, clsAt, fldS, muOf, Sl.get, Sl.put, putD, mSetFs, fldsT, fldsS, allS, mMake, mMakeL, mCm, fnN, mJs, itSeq, mMeth, beq_self_eq_true, and_self, List.isEmpty_nil, List.isEmpty_cons, Option.map, big, Nat.reduceLeDiff, Nat.zero_le, Nat.le_refl]
def nIo (s : Sl) : Bool := notIo (some s)
theorem pow_ok {i j : Int} (h : 0 ≤ j) (h1 : j ≤ 1000000) (h2 : i.natAbs < 2 ^ 64) : powD (.int i) (.int j) = some (dI (i ^ j.toNat)) := by
  unfold powD int2c
  simp only
  rw [if_pos]
  exact decide_eq_true ⟨h, h1, h2⟩
theorem p16 : powD (.int 10) (.int 16) = some (dI (10 ^ 16)) := pow_ok (by decide) (by decide) (by decide)
theorem p60 : powD (.int 10) (.int 60) = some (dI (10 ^ 60)) := pow_ok (by decide) (by decide) (by decide)
theorem pm120 : mulD (.int (10 ^ 60)) (.int (10 ^ 60)) = some (dI (10 ^ 60 * 10 ^ 60)) := mul_ok (by decide) (by decide)
theorem abs_eq (i : Int) : absD (.int i) = some (dI (if i < 0 then -i else i)) := rfl
theorem maxD_int (i j : Int) : maxD (.int i) (.int j) = some (dI (if j > i then j else i)) := rfl
theorem minD_int (i j : Int) : minD (.int i) (.int j) = some (dI (if j < i then j else i)) := rfl
theorem intB_ (b : Bool) : intD (.bl b) = some (dI (if b then 1 else 0)) := rfl
theorem dice_core (ns : List D) (s : Nat) (hs : s < 63) (x : Int) (hx : (mIf (mTest (mOp2 ltI (mVar 1) (mCall (one1 lenD) (mCons (mVar 0) mNil)))) (mCall (one1 intD) (mCons (mOp2 ixD (mVar 0) (mVar 1)) mNil)) (mOp2 addD (mOp2 mulD (mC (.int 61)) (mVar 1)) (mC (.int 17)))) [.val (.scr ns), .val (.int s), .non, .non] = .ok (.int x, false) [.val (.scr ns), .val (.int s), .non, .non]) :
    ∃ m, fn_l_dice none [.scr ns, .int s] = .ret (.lst m, true) none ∧ DiceK 0 (.lst m) := by
  have a0 : 0 ≤ (if x < 0 then -x else x) := by split <;> omega
  generalize ea : (if x < 0 then -x else x) = ax at a0
  have e1 := abs_eq x
  rw [ea] at e1
  generalize em : (if ax - 10 ^ 16 > 0 then ax - 10 ^ 16 else 0) = mx
  have e2 := maxD_int 0 (ax - 10 ^ 16)
  rw [em] at e2
  have e3 : modD (.int mx) (.int (10 ^ 60 * 10 ^ 60)) = some (dI (mx % (10 ^ 60 * 10 ^ 60))) := mod_ok (by decide)
  have c0 : 0 ≤ mx % (10 ^ 60 * 10 ^ 60) := Int.emod_nonneg _ (by decide)
  have c1 : mx % (10 ^ 60 * 10 ^ 60) < 10 ^ 60 * 10 ^ 60 := Int.emod_lt_of_pos _ (by decide)
  generalize mx % (10 ^ 60 * 10 ^ 60) = cx at e3 c0 c1
  have e4 : modD (.int ax) (.int 1152921504606846869) = some (dI (ax % 1152921504606846869)) := mod_ok (by decide)
  have d0 : 0 ≤ ax % 1152921504606846869 := Int.emod_nonneg _ (by decide)
  have d1 : ax % 1152921504606846869 < 1152921504606846869 := Int.emod_lt_of_pos _ (by decide)
  generalize ax % 1152921504606846869 = dx at e4 d0 d1
  have e5 : mulD (.int dx) (.int 43) = some (dI (dx * 43)) := mul_ok (by omega) (by decide)
  have e6 : mulD (.int 811) (.int s) = some (dI (811 * (s : Int))) := mul_ok (by decide) (by omega)
  have e7 := intB_ (decide (x < 0))
  have e8 : mulD (.int 29) (.int (if decide (x < 0) = true then 1 else 0)) = some (dI (29 * (if decide (x < 0) = true then 1 else 0))) := mul_ok (by decide) (by split <;> decide)
  generalize ez : (29 * (if decide (x < 0) = true then 1 else 0) : Int) = zx at e8
  have z0 : 0 ≤ zx ∧ zx ≤ 29 := by
    rw [← ez]
    split <;> omega
  refine ⟨[.int cx, .int (dx * 43 + 811 * (s : Int) + zx + 5), .int 0], ?_, cx, dx * 43 + 811 * (s : Int) + zx + 5, 0, rfl, c0, ?_, by omega, by omega, by decide, by decide⟩
  · have st : (mAsg 2 (mIf (mTest (mOp2 ltI (mVar 1) (mCall (one1 lenD) (mCons (mVar 0) mNil)))) (mCall (one1 intD) (mCons (mOp2 ixD (mVar 0) (mVar 1)) mNil)) (mOp2 addD (mOp2 mulD (mC (.int 61)) (mVar 1)) (mC (.int 17))))) [.val (.scr ns), .val (.int s), .non, .non] = .ok .nx [.val (.scr ns), .val (.int s), .val (.int x), .non] := by
      unfold mAsg
      rw [hx]
      rfl
    have body : m_l_dice [.val (.scr ns), .val (.int s), .non, .non] = .ok (.rt (.lst [.int cx, .int (dx * 43 + 811 * (s : Int) + zx + 5), .int 0], true)) [.val (.scr ns), .val (.int s), .val (.int x), .val (.int cx)] := by
      unfold m_l_dice mSeq
      rw [st]
      simp only [e1, e2, e3, e4, e5, e6, e7, e8, p16, p60, pm120, ltI_int, int2_int, noX, fnSem, en0, pre0, ioOf, mSeq, mIfS, mRet, mRetN, mAsg, mAsgO, mExpr, mNext, mDead, mTest, mAnd, mOr, mNot, mIf, mAndV, mOrV, mNotV, notD, mChain, mOp1, mOp2, mC, mVar, mCall, mCons, mNil, mTup, mLst, mStar, mCallV, mCallD, mPar, mAsgG, gT, gTs, gN, setV, notIo, nxt, Rs.bind, lift, asB, one1, two1, ixD, addD, subD, lenT, lenL, lenSc, tupD, intD, eq0, dI, dB, dS, List.length_cons, List.length_nil, List.map_cons, List.map_nil, List.append_nil, List.nil_append, List.cons_append, List.getElem?_cons_zero, List.getElem?_cons_succ, List.set_cons_zero, List.set_cons_succ, List.replicate, Option.bind_some, Option.map_some, Option.bind, Nat.zero_add, Nat.add_zero, Nat.reduceAdd, Nat.reduceSub, Nat.reduceEqDiff, if_true, if_false, reduceIte, Bool.false_eq_true, Bool.not_true, Bool.not_false, Nat.reduceLT, decide_true, decide_false, mSetF, clsAt, fldS, muOf, Sl.get, Sl.put, putD, mSetFs, fldsT, fldsS, allS, mMake, mMakeL, mCm, fnN, mJs, itSeq, mMeth, beq_self_eq_true, and_self, List.isEmpty_nil, List.isEmpty_cons, Option.map, big, Nat.reduceLeDiff, Nat.zero_le, Nat.le_refl]
    simp only [fn_l_dice, body, noX, fnSem, en0, pre0, ioOf, mSeq, mIfS, mRet, mRetN, mAsg, mAsgO, mExpr, mNext, mDead, mTest, mAnd, mOr, mNot, mIf, mAndV, mOrV, mNotV, notD, mChain, mOp1, mOp2, mC, mVar, mCall, mCons, mNil, mTup, mLst, mStar, mCallV, mCallD, mPar, mAsgG, gT, gTs, gN, setV, notIo, nxt, Rs.bind, lift, asB, one1, two1, ixD, addD, subD, lenT, lenL, lenSc, tupD, intD, eq0, dI, dB, dS, List.length_cons, List.length_nil, List.map_cons, List.map_nil, List.append_nil, List.nil_append, List.cons_append, List.getElem?_cons_zero, List.getElem?_cons_succ, List.set_cons_zero, List.set_cons_succ, List.replicate, Option.bind_some, Option.map_some, Option.bind, Nat.zero_add, Nat.add_zero, Nat.reduceAdd, Nat.reduceSub, Nat.reduceEqDiff, if_true, if_false, reduceIte, Bool.false_eq_true, Bool.not_true, Bool.not_false, Nat.reduceLT, decide_true, decide_false, mSetF, clsAt, fldS, muOf, Sl.get, Sl.put, putD, mSetFs, fldsT, fldsS, allS, mMake, mMakeL, mCm, fnN, mJs, itSeq, mMeth, beq_self_eq_true, and_self, List.isEmpty_nil, List.isEmpty_cons, Option.map, big, Nat.reduceLeDiff, Nat.zero_le, Nat.le_refl]
  · have : (10 ^ 60 * 10 ^ 60 : Int) ≤ 10 ^ 121 := by decide
    omega
theorem dice_ok (ns : List Int) (s : Nat) (hs : s < 63) : ∃ m, fn_l_dice none [.scr (ns.map D.int), .int s] = .ret (.lst m, true) none ∧ DiceK 0 (.lst m) := by
  by_cases h : s < ns.length
  · refine dice_core _ s hs ns[s] ?_
    have d : decide ((s : Int) < ((ns.map D.int).length : Nat)) = true := decide_eq_true (by rw [List.length_map]; omega)
    have ea : atI (ns.map D.int) (s : Int) = some (.int ns[s]) := by
      unfold atI ixN
      rw [if_pos (by omega), if_pos (by rw [List.length_map]; omega)]
      simp [h]
    simp only [ltI_int, d, ea, noX, fnSem, en0, pre0, ioOf, mSeq, mIfS, mRet, mRetN, mAsg, mAsgO, mExpr, mNext, mDead, mTest, mAnd, mOr, mNot, mIf, mAndV, mOrV, mNotV, notD, mChain, mOp1, mOp2, mC, mVar, mCall, mCons, mNil, mTup, mLst, mStar, mCallV, mCallD, mPar, mAsgG, gT, gTs, gN, setV, notIo, nxt, Rs.bind, lift, asB, one1, two1, ixD, addD, subD, lenT, lenL, lenSc, tupD, intD, eq0, dI, dB, dS, List.length_cons, List.length_nil, List.map_cons, List.map_nil, List.append_nil, List.nil_append, List.cons_append, List.getElem?_cons_zero, List.getElem?_cons_succ, List.set_cons_zero, List.set_cons_succ, List.replicate, Option.bind_some, Option.map_some, Option.bind, Nat.zero_add, Nat.add_zero, Nat.reduceAdd, Nat.reduceSub, Nat.reduceEqDiff, if_true, if_false, reduceIte, Bool.false_eq_true, Bool.not_true, Bool.not_false, Nat.reduceLT, decide_true, decide_false, mSetF, clsAt, fldS, muOf, Sl.get, Sl.put, putD, mSetFs, fldsT, fldsS, allS, mMake, mMakeL, mCm, fnN, mJs, itSeq, mMeth, beq_self_eq_true, and_self, List.isEmpty_nil, List.isEmpty_cons, Option.map, big, Nat.reduceLeDiff, Nat.zero_le, Nat.le_refl]
  · refine dice_core _ s hs (61 * (s : Int) + 17) ?_
    have d : decide ((s : Int) < ((ns.map D.int).length : Nat)) = false := decide_eq_false (by rw [List.length_map]; omega)
    have e : mulD (.int 61) (.int s) = some (dI (61 * (s : Int))) := mul_ok (by decide) (by omega)
    simp only [ltI_int, d, e, noX, fnSem, en0, pre0, ioOf, mSeq, mIfS, mRet, mRetN, mAsg, mAsgO, mExpr, mNext, mDead, mTest, mAnd, mOr, mNot, mIf, mAndV, mOrV, mNotV, notD, mChain, mOp1, mOp2, mC, mVar, mCall, mCons, mNil, mTup, mLst, mStar, mCallV, mCallD, mPar, mAsgG, gT, gTs, gN, setV, notIo, nxt, Rs.bind, lift, asB, one1, two1, ixD, addD, subD, lenT, lenL, lenSc, tupD, intD, eq0, dI, dB, dS, List.length_cons, List.length_nil, List.map_cons, List.map_nil, List.append_nil, List.nil_append, List.cons_append, List.getElem?_cons_zero, List.getElem?_cons_succ, List.set_cons_zero, List.set_cons_succ, List.replicate, Option.bind_some, Option.map_some, Option.bind, Nat.zero_add, Nat.add_zero, Nat.reduceAdd, Nat.reduceSub, Nat.reduceEqDiff, if_true, if_false, reduceIte, Bool.false_eq_true, Bool.not_true, Bool.not_false, Nat.reduceLT, decide_true, decide_false, mSetF, clsAt, fldS, muOf, Sl.get, Sl.put, putD, mSetFs, fldsT, fldsS, allS, mMake, mMakeL, mCm, fnN, mJs, itSeq, mMeth, beq_self_eq_true, and_self, List.isEmpty_nil, List.isEmpty_cons, Option.map, big, Nat.reduceLeDiff, Nat.zero_le, Nat.le_refl]
theorem append_eq (i : Nat) (mr : MA) (ρ : En) : mAppend i mr ρ = (mBehind i mr fun ys s m ρ1 => match m, ys with
  | .lst ds, [y] => if ds.length < sizeLine then .ok (.non, false) (ρ1.set i (s.put (.lst (ds ++ [y])))) else .stuck
  | _, _ => .stuck) ρ := rfl
theorem rng1_ok (i : Int) (h : 0 ≤ i) (h' : i < 1000) : rng1 [.int i] = some (rgL 0 i.toNat) := by
  show (if -(2 ^ 62) ≤ i ∧ i < 2 ^ 62 then some (rgL 0 i.toNat) else none) = _
  rw [if_pos ⟨by omega, by omega⟩]
theorem DiceK.mono {k k' : Nat} {m : Mu} (h : DiceK k m) (e : k ≤ k') : DiceK k' m := by
  obtain ⟨a, b, c, rfl, q1, q2, q3, q4, q5, q6⟩ := h
  exact ⟨a, b, c, rfl, q1, q2, q3, q4, q5, by omega⟩
/-! ### the signs that come -/
/-! ### comprehensions with a test -/
/-! ### a list compared with [] -/
/-! ### texts cut and joined -/
/-! ### a comprehension that rolls the dice -/
theorem rgL_len (lo : Int) (n : Nat) : (rgL lo n).length = n := rgL_length lo n
theorem ret_io2 {n k : Nat} {b : MS} {m m' : Mu} {x : Vl} {ρ : En} {ds : List D} (hk : (pre0 (some m)).length + ds.length = k) (h : b (en0 n (some m) ds) = .ok (.rt x) ρ) (h0 : ρ[0]? = some (.io m')) : noX (fnSem n k b) (some m) ds = .ret x (some m') := by
  unfold noX fnSem
  rw [if_pos hk, h]
  simp only [ioOf, h0]
theorem ret_nn {n k : Nat} {b : MS} {x : Vl} {ρ : En} {ds : List D} (hk : (pre0 none).length + ds.length = k) (h : b (en0 n none ds) = .ok (.rt x) ρ) : fnSem n k b none ds = .ret x none := by
  unfold fnSem
  rw [if_pos hk, h]
  rfl
/-! ### the law's word for it -/
/-! ### mixed -/
theorem erase_perm' : ∀ (l : List D) (i : Nat) (y : D), l[i]? = some y → (y :: l.eraseIdx i).Perm l
  | [], _, _, h => by simp at h
  | a :: l, 0, y, h => by
    have : a = y := by simpa using h
    subst this
    simp
  | a :: l, i + 1, y, h => by
    have ih := erase_perm' l i y (by simpa using h)
    rw [List.eraseIdx_cons_succ]
    exact (List.Perm.swap a y _).trans (ih.cons a)
theorem mix_loop (x1 : Sl) : ∀ (ds left found : List D) (m : Mu) (k : Nat) (s2 : Sl), ds.length = left.length → found.length + left.length ≤ 100 → k + left.length ≤ 900000 → DiceK k m → nIo s2 = true → ∃ found' m' s2', mLoop (gN 2) (mExpr (mAppend 4 (mCons (mPopAt 3 (mCons (mCallD fn_l_roll 0 (mCons (mLenO 3) mNil)) mNil)) mNil))) ds [.io m, x1, s2, .own (.lst left), .own (.lst found)] = .ok .nx [.io m', x1, s2', .own (.lst []), .own (.lst found')] ∧ found'.Perm (found ++ left) ∧ DiceK (k + left.length) m'
  | [], left, found, m, k, s2, hl, _, _, hd, _ => by
    have : left = [] := List.length_eq_zero_iff.mp hl.symm
    subst this
    exact ⟨found, m, s2, rfl, by simp, by simpa using hd⟩
  | d :: ds, left, found, m, k, s2, hl, hb, hk, hd, n2 => by
    have hl' : ds.length + 1 = left.length := hl
    have n2 : notIo (some s2) = true := n2
    obtain ⟨r, m1, e, r0, r1, d1⟩ := roll_ok m k (left.length : Nat) (by omega) (by omega) (by omega) hd
    have lt : r.toNat < left.length := by omega
    have g1 : gN 2 d [.io m, x1, s2, .own (.lst left), .own (.lst found)] = some [.io m, x1, .val d, .own (.lst left), .own (.lst found)] := by
      simp only [gN, setV, List.getElem?_cons_succ, List.getElem?_cons_zero, n2, if_true, List.set_cons_succ, List.set_cons_zero]
    have c1 : (0 ≤ r ∧ r < 2 ^ 63) := ⟨r0, by omega⟩
    have at1 : left[r.toNat]? = some left[r.toNat] := List.getElem?_eq_getElem lt
    have c2 : found.length < sizeLine := by rw [big]; omega
    have b1 : mExpr (mAppend 4 (mCons (mPopAt 3 (mCons (mCallD fn_l_roll 0 (mCons (mLenO 3) mNil)) mNil)) mNil)) [.io m, x1, .val d, .own (.lst left), .own (.lst found)] = .ok .nx [.io m1, x1, .val d, .own (.lst (left.eraseIdx r.toNat)), .own (.lst (found ++ [left[r.toNat]]))] := by
      simp only [mExpr, mAppend, mPopAt, mBehind, mLenO, mCallD, mCons, mNil, muOf, Sl.get, Sl.put, dI, Rs.bind, Option.bind_some, Option.map_some, List.getElem?_cons_succ, List.getElem?_cons_zero, List.set_cons_succ, List.set_cons_zero, e, if_pos c1, at1, if_pos c2]
    have le : (left.eraseIdx r.toNat).length = left.length - 1 := List.length_eraseIdx_of_lt lt
    obtain ⟨f', m', s2', e2, p2, d2⟩ := mix_loop x1 ds (left.eraseIdx r.toNat) (found ++ [left[r.toNat]]) m1 (k + 1) (.val d) (by omega) (by simp; omega) (by omega) d1 rfl
    refine ⟨f', m', s2', ?_, ?_, d2.mono (by omega)⟩
    · rw [loop_nx g1 b1]
      exact e2
    · refine p2.trans ?_
      rw [List.append_assoc]
      exact List.Perm.append_left found (erase_perm' left r.toNat left[r.toNat] at1)
theorem itA_rng {me : ME} {ρ ρ' : En} {i : Int} {b : Bool} {L : List D} (h : me ρ = .ok (.int i, b) ρ') (rg : rng1 [.int i] = some L) : mItA rng1 (mCons me mNil) ρ = .ok L ρ' := by
  unfold mItA mCons mNil
  rw [h]
  simp only [Rs.bind]
  rw [rg]
  rfl
theorem mix_st (m : Mu) (xs L : List D) (i : Int) (s2 s3 s4 : Sl) (hl : lenD (.lst xs) = some (dI i)) (rg : rng1 [.int i] = some L) : p_l_mixed_0 [.io m, .val (.lst xs), s2, s3, s4] = mLoop (gN 2) (mExpr (mAppend 4 (mCons (mPopAt 3 (mCons (mCallD fn_l_roll 0 (mCons (mLenO 3) mNil)) mNil)) mNil))) L [.io m, .val (.lst xs), s2, s3, s4] := by
  have c : mCall (one1 lenD) (mCons (mVar 1) mNil) [.io m, .val (.lst xs), s2, s3, s4] = .ok (.int i, false) [.io m, .val (.lst xs), s2, s3, s4] := by
    simp only [mCall, mCons, mVar, mNil, Rs.bind, one1, hl, lift, dI, List.getElem?_cons_succ, List.getElem?_cons_zero]
  unfold p_l_mixed_0 mFor
  rw [itA_rng c rg]
  rfl
theorem mixed_ok (xs : List D) (m : Mu) (k : Nat) (hx : xs.length ≤ 100) (hk : k ≤ 800000) (hd : DiceK k m) : ∃ ys m', fn_l_mixed (some m) [.lst xs] = .ret (.lst ys, true) (some m') ∧ ys.Perm xs ∧ DiceK (k + 100) m' := by
  obtain ⟨i, hi⟩ : ∃ i : Int, i = (xs.length : Nat) := ⟨_, rfl⟩
  have hlen : lenD (.lst xs) = some (dI i) := by rw [hi]; rfl
  have rg := rng1_ok i (by omega) (by omega)
  obtain ⟨f, m', sx, e, p, d⟩ := mix_loop (.val (.lst xs)) (rgL 0 i.toNat) xs [] m k .non (by rw [rgL_len]; omega) (by simp; omega) (by omega) hd rfl
  refine ⟨f, m', ?_, by simpa using p, d.mono (by omega)⟩
  have ls : lstD (.lst xs) = some (.lst xs, true) := rfl
  have s1 : mPar0 3 4 (.lst []) (mCall (one1 lstD) (mCons (mVar 1) mNil)) [.io m, .val (.lst xs), .non, .non, .non] = .ok .nx [.io m, .val (.lst xs), .non, .own (.lst xs), .own (.lst [])] := by
    simp only [mPar0, ls, setO, toMu, noX, fnSem, en0, pre0, ioOf, mSeq, mIfS, mRet, mRetN, mAsg, mAsgO, mExpr, mNext, mDead, mTest, mAnd, mOr, mNot, mIf, mAndV, mOrV, mNotV, notD, mChain, mOp1, mOp2, mC, mVar, mCall, mCons, mNil, mTup, mLst, mStar, mCallV, mCallD, mPar, mAsgG, gT, gTs, gN, setV, notIo, nxt, Rs.bind, lift, asB, one1, two1, ixD, addD, subD, lenT, lenL, lenSc, tupD, intD, eq0, dI, dB, dS, List.length_cons, List.length_nil, List.map_cons, List.map_nil, List.append_nil, List.nil_append, List.cons_append, List.getElem?_cons_zero, List.getElem?_cons_succ, List.set_cons_zero, List.set_cons_succ, List.replicate, Option.bind_some, Option.map_some, Option.bind, Nat.zero_add, Nat.add_zero, Nat.reduceAdd, Nat.reduceSub, Nat.reduceEqDiff, if_true, if_false, reduceIte, Bool.false_eq_true, Bool.not_true, Bool.not_false, Nat.reduceLT, decide_true, decide_false, mSetF, clsAt, fldS, muOf, Sl.get, Sl.put, putD, mSetFs, fldsT, fldsS, allS, mMake, mMakeL, mCm, fnN, mJs, itSeq, mMeth, beq_self_eq_true, and_self, List.isEmpty_nil, List.isEmpty_cons, Option.map, big, Nat.reduceLeDiff, Nat.zero_le, Nat.le_refl]
  have s2 : p_l_mixed_0 [.io m, .val (.lst xs), .non, .own (.lst xs), .own (.lst [])] = .ok .nx [.io m', .val (.lst xs), sx, .own (.lst []), .own (.lst f)] := by
    rw [mix_st m xs _ i _ _ _ hlen rg]
    exact e
  have b : m_l_mixed [.io m, .val (.lst xs), .non, .non, .non] = .ok (.rt (.lst f, true)) [.io m', .val (.lst xs), sx, .own (.lst []), .non] := by
    unfold m_l_mixed
    rw [seq_nx s1, seq_nx s2]
    rfl
  exact ret_io2 rfl b rfl
/-! ### some -/
end PM.G

namespace PM.G
open PySem PySem.Spec L2 PM
open PySem.PyData (strOk)
/-! ### data that can be shown -/
def PyR (B k : Nat) (d : D) : Prop := ∃ p, toPy d = some p ∧ p.canLay0 = true ∧ p.depth ≤ k ∧ p.showable = true ∧ p.shown.length ≤ B ∧ strOk p.shown = true
theorem PyR.mono {B B' k k' : Nat} {d : D} (h : PyR B k d) (e : B ≤ B') (e' : k ≤ k') : PyR B' k' d := by
  obtain ⟨p, h1, h2, h3, h4, h5, h6⟩ := h
  exact ⟨p, h1, h2, by omega, h4, by omega, h6⟩
/-! ### lists of whole numbers -/
/-! ### comprehensions -/
end PM.G

namespace PM.G
open PySem PySem.Spec L2 PM
open PySem.PyData (strOk)
theorem gN_set (j : Nat) (d : D) (ρ : En) (h : notIo (ρ[j]?) = true) : gN j d ρ = some (ρ.set j (.val d)) := by
  unfold gN setV
  rw [if_pos h]
/-! ### squares -/
/-! ### closed sets -/
/-! ### closed sets, judged -/
theorem nx_ret {n k : Nat} {b : MS} {x : Vl} {ρ : En} {ds : List D} (hk : ds.length = k) (h : b (en0 n none ds) = .ok (.rt x) ρ) : noX (fnSem n k b) none ds = .ret x none := by
  have hk' : (pre0 none).length + ds.length = k := by
    show 0 + ds.length = k
    omega
  unfold noX
  rw [ret_nn hk' h]
/-! ### the law's word -/
/-! ### states and sets of states -/
/-! ### values that are no closed sets -/
theorem op2_eq {f : D → D → Option (D × Bool)} {ma mb : ME} {ρ ρ1 ρ2 : En} {x y : D} {p q : Bool} {z : D × Bool} (h1 : ma ρ = .ok (x, p) ρ1) (h2 : mb ρ1 = .ok (y, q) ρ2) (h3 : f x y = some z) : mOp2 f ma mb ρ = .ok z ρ2 := by
  unfold mOp2
  rw [h1]
  show ((mb ρ1).bind _) = _
  rw [h2]
  show lift (f x y) ρ2 = _
  rw [h3]
  rfl
theorem asgO_eq {i : Nat} {m : ME} {ρ ρ1 : En} {l : List D} (h1 : m ρ = .ok (.lst l, true) ρ1) (h2 : notIo (ρ1[i]?) = true) : mAsgO i m ρ = .ok .nx (ρ1.set i (.own (.lst l))) := by
  unfold mAsgO
  rw [h1]
  show nxt (setO i _ _) = _
  unfold setO
  rw [if_pos h2]
  rfl
theorem ret_eq {m : ME} {ρ ρ1 : En} {z : D × Bool} (h1 : m ρ = .ok z ρ1) : mRet m ρ = .ok (.rt z) ρ1 := by
  unfold mRet
  rw [h1]
  rfl
theorem ifs_no {mt : MT} {a : MS} {ρ ρ' : En} (h : mt ρ = .ok false ρ') : mIfS mt a mNext ρ = .ok .nx ρ' := by
  unfold mIfS
  rw [h]
  rfl
theorem tst_eq {m : ME} {ρ ρ' : En} {b c : Bool} (h : m ρ = .ok (.bl b, c) ρ') : mTest m ρ = .ok b ρ' := by
  unfold mTest
  rw [h]
  rfl
theorem app_eq {i : Nat} {mr : MA} {ρ ρ1 : En} {y : D} {l : List D} {z : Sl} {l0 : List D} (h0 : muOf i ρ = some (z, .lst l0)) (h2 : mr ρ = .ok [y] ρ1) (h1 : muOf i ρ1 = some (.own (.lst l), .lst l)) (hl : l.length < sizeLine) : mExpr (mAppend i mr) ρ = .ok .nx (ρ1.set i (.own (.lst (l ++ [y])))) := by
  unfold mExpr
  rw [append_eq]
  unfold mBehind
  rw [h0]
  simp only [h2, h1, Rs.bind]
  rw [if_pos hl]
  rfl
/-! ### signs -/
theorem asg_eq {i : Nat} {m : ME} {ρ ρ1 : En} {x : D} {c : Bool} (h : m ρ = .ok (x, c) ρ1) (hj : notIo (ρ1[i]?) = true) : mAsg i m ρ = .ok .nx (ρ1.set i (.val x)) := by
  unfold mAsg
  rw [h]
  show nxt (setV i x ρ1) = _
  unfold setV
  rw [if_pos hj]
  rfl
/-! ### marks, numbered anew -/
/-! ### leaders -/
/-! ### the least table -/
/-! ### the walk -/
theorem callV1_eq {f : Fn} {m1 : ME} {ρ ρ1 : En} {x : D} {c : Bool} {z : Vl} (h1 : m1 ρ = .ok (x, c) ρ1) (h : f none [x] = .ret z none) : mCallV f (mCons m1 mNil) ρ = .ok z ρ1 := by
  unfold mCallV mCons mNil
  simp only [h1, Rs.bind, h]
theorem callV2_eq {f : Fn} {m1 m2 : ME} {ρ ρ1 ρ2 : En} {x y : D} {c c' : Bool} {z : Vl} (h1 : m1 ρ = .ok (x, c) ρ1) (h2 : m2 ρ1 = .ok (y, c') ρ2) (h : f none [x, y] = .ret z none) : mCallV f (mCons m1 (mCons m2 mNil)) ρ = .ok z ρ2 := by
  unfold mCallV mCons mNil
  simp only [h1, h2, Rs.bind, h]
theorem not_eq {t : MT} {ρ ρ' : En} {b : Bool} (h : t ρ = .ok b ρ') : mNot t ρ = .ok (!b) ρ' := by
  unfold mNot
  rw [h]
  rfl
theorem or_ff {a b : MT} {ρ ρ1 ρ2 : En} (h1 : a ρ = .ok false ρ1) (h2 : b ρ1 = .ok false ρ2) : mOr a b ρ = .ok false ρ2 := by
  unfold mOr
  rw [h1]
  exact h2
theorem andV_t {a b : ME} {ρ ρ1 ρ2 : En} {c : Bool} {z : Vl} (h1 : a ρ = .ok (.bl true, c) ρ1) (h2 : b ρ1 = .ok z ρ2) : mAndV a b ρ = .ok z ρ2 := by
  unfold mAndV
  rw [h1]
  exact h2
theorem callD1_eq {f : Fn} {m1 : ME} {ρ : En} {m m' : Mu} {x : D} {c : Bool} {z : Vl} {tl : En} (e : ρ = .io m :: tl) (h1 : m1 ρ = .ok (x, c) ρ) (h : f (some m) [x] = .ret z (some m')) : mCallD f 0 (mCons m1 mNil) ρ = .ok z (.io m' :: tl) := by
  have mu : muOf 0 ρ = some (.io m, m) := by rw [e]; rfl
  unfold mCallD mCons mNil
  simp only [mu, h1, Rs.bind, h]
  rw [e]
  rfl
/-! ### the dict of places -/
/-! ### one turn of the drawn buildings -/
end PM.G
namespace PM.G
open PySem PySem.Spec L2 PM
/-! forms: their words as the kernel tells them -/
def atoms : List D := [.tup [.str "tied", .str "x", .str "y"], .tup [.str "same", .str "left", .str "right"], .tup [.str "in", .str "z", .str "Z"], .tup [.str "tied", .str "left", .str "a"]]
def notF (a : D) : D := .tup [.str "not", a]
def binF (w : Str) (a b : D) : D := .tup [.str w, a, b]
def deepF (a : D) : D := notF (notF (notF (notF (notF (notF (notF a))))))
def fullF : Nat → D → D
  | 0, a => a
  | 1, a => a
  | n + 2, a => binF "and" (fullF (n + 1) a) (fullF (n + 1) a)
def fullH (a : D) : D := binF "or" (binF "and" (fullF 5 a) (notF (notF (notF a)))) (notF (notF a))
def qs : List D := [.str "some", .str "each"]
def chF (q n f : D) : D := .tup [q, n, f]
def nests (a : D) : List D := qs.flatMap fun q1 => qs.flatMap fun q2 => qs.flatMap fun q3 => qs.map fun q4 => chF q4 (.str "B") (chF q3 (.str "y") (chF q2 (.str "A") (chF q1 (.str "x") a)))
/-- Saying(d): 1: made, 2: refused -/
def sayW (d : D) : Nat := match fn_x_Saying_uinitu (some (.ins 0 [])) [d, .bl false] with
  | .ret (.non, false) (some (.ins 0 [some _])) => 1
  | .exc (.own 2 []) (some _) => 2
  | _ => 0
/-- Saying.of_text(d) -/
def txW (d : D) : Nat := match fn_z_Saying_of_text none [.cls 0, d] with
  | .ret _ none => 1
  | .exc (.own 2 []) none => 2
  | .exc (.own 1 [_]) none => 3
  | _ => 0
def ftD (d : D) : D := match fn_l_form_text 12 none [d] with
  | .ret (.str z, false) none => .str z
  | _ => .non
end PM.G

namespace PM.G
open PySem PySem.Spec L2 PM
theorem w1 : atoms.map (fun a => sayW (deepF a)) = [1, 1, 1, 1] := by kernel_rfl
theorem w2 : atoms.map (fun a => sayW (notF (deepF a))) = [2, 2, 2, 2] := by kernel_rfl
theorem w3 : atoms.map (fun a => (nests a).map sayW) = atoms.map (fun a => (nests a).map fun _ => 1) := by kernel_rfl
theorem w4 : atoms.map (fun a => (nests a).map fun n => sayW (chF (.str "some") (.str "q") n)) = atoms.map (fun a => (nests a).map fun _ => 2) := by kernel_rfl
theorem w5 : atoms.map (fun a => (nests a).map fun n => sayW (binF "and" n (chF (.str "some") (.str "x") a))) = atoms.map (fun a => (nests a).map fun _ => 1) := by kernel_rfl
theorem w6 : atoms.map (fun a => sayW (fullH a)) = [1, 1, 1, 1] := by kernel_rfl
theorem w7 : atoms.map (fun a => sayW (notF (fullH a))) = [2, 2, 2, 2] := by kernel_rfl
theorem w8 : atoms.map (fun a => sayW (binF "and" (fullH a) a)) = [2, 2, 2, 2] := by kernel_rfl
theorem w9 : atoms.map (fun a => txW (ftD (notF (deepF a)))) = [2, 2, 2, 2] := by kernel_rfl
end PM.G

namespace PM.G
open PySem PySem.Spec L2 PM
def wordsN : Nat → List D
  | 0 => [.str "x", .str "tied", .str "y"]
  | n + 1 => .str "not" :: wordsN n
def nestN : Nat → D
  | 0 => .tup [.str "tied", .str "x", .str "y"]
  | n + 1 => .tup [.str "not", nestN n]
theorem r197 : fn_z_FormReader_take_form 210 (some (.rcd 3 ["own_words", "own_at"] [.lst (wordsN 197), .int 0])) [] = .ret (nestN 197, false) (some (.rcd 3 ["own_words", "own_at"] [.lst (wordsN 197), .int 200])) := by kernel_rfl
theorem s197 : sayW (nestN 197) = 2 := by kernel_rfl
def codesN : Nat → List Nat
  | 0 => [120, 32, 116, 105, 101, 100, 32, 121]
  | n + 1 => 110 :: 111 :: 116 :: 32 :: codesN n
theorem c197 : repS "not " 197 ++ "x tied y" = SX.S (codesN 197) := by kernel_rfl
theorem b1 : (" " : Str) = SX.S [32] := by kernel_rfl
theorem spl197 : ((TL.spl [32] 0 [] (codesN 197)).map SX.S).map D.str = wordsN 197 := by kernel_rfl
theorem sp197 : (Txt.split (repS "not " 197 ++ "x tied y") " ").map D.str = wordsN 197 := by
  rw [c197, b1, SX.split_S (by simp) (by decide)]
  exact spl197
theorem c200 : repS "not " 200 ++ "x tied y" = SX.S (codesN 200) := by kernel_rfl
theorem spl200 : ((TL.spl [32] 0 [] (codesN 200)).map SX.S).map D.str = wordsN 200 := by kernel_rfl
theorem sp200 : (Txt.split (repS "not " 200 ++ "x tied y") " ").map D.str = wordsN 200 := by
  rw [c200, b1, SX.split_S (by simp) (by decide)]
  exact spl200
def codesM : Nat → List Nat
  | 0 => [120]
  | n + 1 => 110 :: 111 :: 32 :: codesM n
def wordsM : Nat → List D
  | 0 => [.str "x"]
  | n + 1 => .str "no" :: wordsM n
theorem c201 : repS "no " 201 ++ "x" = SX.S (codesM 201) := by kernel_rfl
theorem spl201 : ((TL.spl [32] 0 [] (codesM 201)).map SX.S).map D.str = wordsM 201 := by kernel_rfl
theorem sp201 : (Txt.split (repS "no " 201 ++ "x") " ").map D.str = wordsM 201 := by
  rw [c201, b1, SX.split_S (by simp) (by decide)]
  exact spl201
end PM.G

namespace PM.G
open PySem PySem.Spec L2 PM
abbrev tld (m : ME) : ME := mToldX excL tc_l_word (some "fine") m
theorem tld_ok {m : ME} {ρ ρ1 : En} {x : Vl} (h : m ρ = .ok x ρ1) : tld m ρ = .ok (.str "fine", false) ρ1 := by
  unfold tld mToldX
  rw [h]
theorem tld_say {m : ME} {ρ ρ1 : En} (h : m ρ = .exc (.own 2 []) ρ1) : tld m ρ = .ok (.str "saying", false) ρ1 := by
  unfold tld mToldX
  rw [h]
  rfl
abbrev mkS (mr : MA) : ME := mMakeX 0 (wD [.bl false] fn_x_Saying_uinitu) mr
theorem mkS_1 {mr : MA} {ρ ρ1 : En} {d : D} (h : mr ρ = .ok [d] ρ1) (w : sayW d = 1) : tld (mkS mr) ρ = .ok (.str "fine", false) ρ1 := by
  have key : ∃ x, mkS mr ρ = .ok x ρ1 := by
    unfold mkS mMakeX
    rw [h]
    unfold sayW at w
    split at w
    · rename_i s q
      refine ⟨(.obj 0 [s], false), ?_⟩
      show (match wD [.bl false] fn_x_Saying_uinitu (some (.ins 0 [])) [d] with
        | .exc xc (some _) => (.exc xc ρ1 : Rs Vl)
        | _ => lift (mkF 0 (wD [.bl false] fn_x_Saying_uinitu) [d]) ρ1) = _
      have q2 : wD [.bl false] fn_x_Saying_uinitu (some (.ins 0 [])) [d] = .ret (.non, false) (some (.ins 0 [some s])) := q
      rw [q2]
      show lift (mkF 0 (wD [.bl false] fn_x_Saying_uinitu) [d]) ρ1 = _
      unfold mkF
      rw [q2]
      rfl
    · cases w
    · cases w
  obtain ⟨x, e⟩ := key
  exact tld_ok e
theorem mkS_2 {mr : MA} {ρ ρ1 : En} {d : D} (h : mr ρ = .ok [d] ρ1) (w : sayW d = 2) : tld (mkS mr) ρ = .ok (.str "saying", false) ρ1 := by
  have key : mkS mr ρ = .exc (.own 2 []) ρ1 := by
    unfold mkS mMakeX
    rw [h]
    unfold sayW at w
    split at w
    · cases w
    · rename_i s q
      show (match wD [.bl false] fn_x_Saying_uinitu (some (.ins 0 [])) [d] with
        | .exc xc (some _) => (.exc xc ρ1 : Rs Vl)
        | _ => lift (mkF 0 (wD [.bl false] fn_x_Saying_uinitu) [d]) ρ1) = _
      have q2 : wD [.bl false] fn_x_Saying_uinitu (some (.ins 0 [])) [d] = .exc (.own 2 []) (some s) := q
      rw [q2]
    · cases w
  exact tld_say key
abbrev cmS (mr : MA) : ME := mCmX 0 fn_z_Saying_of_text mr
theorem cmS_2 {mr : MA} {ρ ρ1 : En} {d : D} (h : mr ρ = .ok [d] ρ1) (w : txW d = 2) : tld (cmS mr) ρ = .ok (.str "saying", false) ρ1 := by
  have key : cmS mr ρ = .exc (.own 2 []) ρ1 := by
    unfold cmS mCmX
    rw [h]
    unfold txW at w
    show (match fn_z_Saying_of_text none (.cls 0 :: [d]) with
      | .ret x none => (.ok x ρ1 : Rs Vl)
      | .exc xc none => .exc xc ρ1
      | _ => .stuck) = _
    split at w
    · cases w
    · rename_i q
      rw [q]
    · cases w
    · cases w
  exact tld_say key
theorem cmS_3 {mr : MA} {ρ ρ1 : En} {d : D} (h : mr ρ = .ok [d] ρ1) (w : fn_z_Saying_of_text none [.cls 0, d] = .exc (.own 1 [("number", .int 200)]) none) : tld (cmS mr) ρ = .ok (.str "parse 200", false) ρ1 := by
  have key : cmS mr ρ = .exc (.own 1 [("number", .int 200)]) ρ1 := by
    unfold cmS mCmX
    rw [h]
    show (match fn_z_Saying_of_text none (.cls 0 :: [d]) with
      | .ret x none => (.ok x ρ1 : Rs Vl)
      | .exc xc none => .exc xc ρ1
      | _ => .stuck) = _
    rw [w]
  unfold tld mToldX
  rw [key]
  show lift ((hitX tc_l_word 1 [("number", .int 200)]).map fun z => (D.str z, false)) ρ1 = _
  have e : hitX tc_l_word 1 [("number", .int 200)] = some "parse 200" := by kernel_rfl
  rw [e]
  rfl
end PM.G

namespace PM.G
open PySem PySem.Spec L2 PM
def VN : Sl → Prop
  | .non => True
  | .val _ => True
  | _ => False
theorem VN.io {s : Sl} (h : VN s) : notIo (some s) = true := by
  cases s <;> first | rfl | exact h.elim
theorem lg9 {xs : List D} {c : Nat} (h : c < xs.length) : atI xs (c : Int) = some xs[c] := by
  unfold atI ixN
  rw [if_pos (by omega), if_pos (by omega)]
  simp [h]
theorem pick_ok (m : Mu) (k : Nat) (xs : List D) (h0 : xs ≠ []) (hl : xs.length ≤ 1000) (hk : k ≤ 1000000) (hd : DiceK k m) : ∃ d m', d ∈ xs ∧ fn_l_pick (some m) [.lst xs] = .ret (d, false) (some m') ∧ DiceK (k + 1) m' := by
  have lp : 0 < xs.length := List.length_pos_iff.mpr h0
  obtain ⟨r, m1, e, r0, r1, d⟩ := roll_ok m k (xs.length : Nat) (by omega) (by omega) hk hd
  obtain ⟨c, hc⟩ := Int.eq_ofNat_of_zero_le r0
  subst hc
  have lt : c < xs.length := by omega
  have ea := lg9 lt
  refine ⟨xs[c], m1, List.getElem_mem lt, ?_, d⟩
  simp only [fn_l_pick, m_l_pick, e, ea, noX, fnSem, en0, pre0, ioOf, mSeq, mIfS, mRet, mRetN, mAsg, mAsgO, mExpr, mNext, mDead, mTest, mAnd, mOr, mNot, mIf, mAndV, mOrV, mNotV, notD, mChain, mOp1, mOp2, mC, mVar, mCall, mCons, mNil, mTup, mLst, mStar, mCallV, mCallD, mPar, mAsgG, gT, gTs, gN, setV, notIo, nxt, Rs.bind, lift, asB, one1, two1, ixD, addD, subD, lenT, lenL, lenSc, tupD, intD, eq0, dI, dB, dS, List.length_cons, List.length_nil, List.map_cons, List.map_nil, List.append_nil, List.nil_append, List.cons_append, List.getElem?_cons_zero, List.getElem?_cons_succ, List.set_cons_zero, List.set_cons_succ, List.replicate, Option.bind_some, Option.map_some, Option.bind, Nat.zero_add, Nat.add_zero, Nat.reduceAdd, Nat.reduceSub, Nat.reduceEqDiff, if_true, if_false, reduceIte, Bool.false_eq_true, Bool.not_true, Bool.not_false, Nat.reduceLT, decide_true, decide_false, mSetF, clsAt, fldS, muOf, Sl.get, Sl.put, putD, mSetFs, fldsT, fldsS, allS, mMake, mMakeL, mCm, fnN, mJs, itSeq, mMeth, beq_self_eq_true, and_self, List.isEmpty_nil, List.isEmpty_cons, Option.map, big, Nat.reduceLeDiff, Nat.zero_le, Nat.le_refl]
/-- one draw -/
theorem draw {m : Mu} {k i : Nat} {xs : List D} {L : ME} {tl : En} (hL : ∀ m, L (.io m :: tl) = .ok (.lst xs, true) (.io m :: tl)) (h0 : xs ≠ []) (hl : xs.length ≤ 1000) (hk : k ≤ 1000000) (hd : DiceK k m) (hi : notIo (tl[i]?) = true) :
    ∃ d m', d ∈ xs ∧ DiceK (k + 1) m' ∧ mAsg (i + 1) (mCallD fn_l_pick 0 (mCons L mNil)) (.io m :: tl) = .ok .nx (.io m' :: tl.set i (.val d)) := by
  obtain ⟨d, m', hm, e, dk⟩ := pick_ok m k xs h0 hl hk hd
  refine ⟨d, m', hm, dk, ?_⟩
  have := asg_eq (i := i + 1) (callD1_eq (tl := tl) rfl (hL m) e) (by simpa using hi)
  simpa using this

theorem map_at {α β : Type} {f g : α → β} {l : List α} (h : l.map f = l.map g) : ∀ a ∈ l, f a = g a := List.map_inj_left.mp h
end PM.G

namespace PM.G
open PySem PySem.Spec L2 PM
theorem split_is {t : Str} {ws : List D} (h : (Txt.split t " ").map D.str = ws) (hl : t.length ≤ 10000) : splitD (.str t) (.str " ") = some (.lst ws, true) := by
  show (if ((" " : Str).length == 0) = false ∧ t.length + 2 ≤ 16777216 then some (D.lst ((Txt.split t " ").map D.str), true) else none) = _
  rw [if_pos ⟨by decide +kernel, by omega⟩, h]
theorem form_long {t : Str} {ws : List D} (hs : splitD (.str t) (.str " ") = some (.lst ws, true)) {n : Int} (hl : lenD (.lst ws) = some (.int n, false)) (hn : 200 < n) : fn_z_form_of none [.str t] = .exc (.own 1 [("number", .int 200)]) none := by
  have e1 : isD 1 ans_str (.str t) = some (.bl true, false) := rfl
  have e2 : gtI (.int n) (.int 200) = some (.bl true, false) := by
    show some (dB (decide ((200 : Int) < n))) = _
    rw [decide_eq_true hn]
    rfl
  simp only [fn_z_form_of, m_z_form_of, mSplit, mRaise, e1, e2, hs, hl, noX, fnSem, en0, pre0, ioOf, mSeq, mIfS, mRet, mRetN, mAsg, mAsgO, mExpr, mNext, mDead, mTest, mAnd, mOr, mNot, mIf, mAndV, mOrV, mNotV, notD, mChain, mOp1, mOp2, mC, mVar, mCall, mCons, mNil, mTup, mLst, mStar, mCallV, mCallD, mPar, mAsgG, gT, gTs, gN, setV, notIo, nxt, Rs.bind, lift, asB, one1, two1, ixD, addD, subD, lenT, lenL, lenSc, tupD, intD, eq0, dI, dB, dS, List.length_cons, List.length_nil, List.map_cons, List.map_nil, List.append_nil, List.nil_append, List.cons_append, List.getElem?_cons_zero, List.getElem?_cons_succ, List.set_cons_zero, List.set_cons_succ, List.replicate, Option.bind_some, Option.map_some, Option.bind, Nat.zero_add, Nat.add_zero, Nat.reduceAdd, Nat.reduceSub, Nat.reduceEqDiff, if_true, if_false, reduceIte, Bool.false_eq_true, Bool.not_true, Bool.not_false, Nat.reduceLT, decide_true, decide_false, mSetF, clsAt, fldS, muOf, Sl.get, Sl.put, putD, mSetFs, fldsT, fldsS, allS, mMake, mMakeL, mCm, fnN, mJs, itSeq, mMeth, beq_self_eq_true, and_self, List.isEmpty_nil, List.isEmpty_cons, Option.map, big, Nat.reduceLeDiff, Nat.zero_le, Nat.le_refl]
theorem txt_exc {t : Str} {xc : Xc} (h : fn_z_form_of none [.str t] = .exc xc none) : fn_z_Saying_of_text none [.cls 0, .str t] = .exc xc none := by
  simp only [fn_z_Saying_of_text, m_z_Saying_of_text, mMakeLX, mMakeX, mCallX, h, noX, fnSem, en0, pre0, ioOf, mSeq, mIfS, mRet, mRetN, mAsg, mAsgO, mExpr, mNext, mDead, mTest, mAnd, mOr, mNot, mIf, mAndV, mOrV, mNotV, notD, mChain, mOp1, mOp2, mC, mVar, mCall, mCons, mNil, mTup, mLst, mStar, mCallV, mCallD, mPar, mAsgG, gT, gTs, gN, setV, notIo, nxt, Rs.bind, lift, asB, one1, two1, ixD, addD, subD, lenT, lenL, lenSc, tupD, intD, eq0, dI, dB, dS, List.length_cons, List.length_nil, List.map_cons, List.map_nil, List.append_nil, List.nil_append, List.cons_append, List.getElem?_cons_zero, List.getElem?_cons_succ, List.set_cons_zero, List.set_cons_succ, List.replicate, Option.bind_some, Option.map_some, Option.bind, Nat.zero_add, Nat.add_zero, Nat.reduceAdd, Nat.reduceSub, Nat.reduceEqDiff, if_true, if_false, reduceIte, Bool.false_eq_true, Bool.not_true, Bool.not_false, Nat.reduceLT, decide_true, decide_false, mSetF, clsAt, fldS, muOf, Sl.get, Sl.put, putD, mSetFs, fldsT, fldsS, allS, mMake, mMakeL, mCm, fnN, mJs, itSeq, mMeth, beq_self_eq_true, and_self, List.isEmpty_nil, List.isEmpty_cons, Option.map, big, Nat.reduceLeDiff, Nat.zero_le, Nat.le_refl]
theorem form_ok {t : Str} {ws : List D} {f : D} {n : Int} (hs : splitD (.str t) (.str " ") = some (.lst ws, true)) (hl : lenD (.lst ws) = some (.int n, false)) (hn : n ≤ 200)
    (hr : fn_z_FormReader_take_form 210 (some (.rcd 3 ["own_words", "own_at"] [.lst ws, .int 0])) [] = .ret (f, false) (some (.rcd 3 ["own_words", "own_at"] [.lst ws, .int n]))) : fn_z_form_of none [.str t] = .ret (f, false) none := by
  have e1 : isD 1 ans_str (.str t) = some (.bl true, false) := rfl
  have e2 : gtI (.int n) (.int 200) = some (.bl false, false) := by
    show some (dB (decide ((200 : Int) < n))) = _
    rw [decide_eq_false (by omega)]
    rfl
  have e3 : ltI (.int n) (.int n) = some (.bl false, false) := by
    show some (dB (decide (n < n))) = _
    rw [decide_eq_false (by omega)]
    rfl
  have e4 : fn_x_FormReader_uinitu (some (.rcd 3 [] [])) [.lst ws] = .ret (.non, false) (some (.rcd 3 ["own_words", "own_at"] [.lst ws, .int 0])) := rfl
  have e5 : fldN "take_form" ["own_words", "own_at"] [D.lst ws, .int 0] = none := by kernel_rfl
  have e6 : fldN "own_at" ["own_words", "own_at"] [D.lst ws, .int n] = some (.int n) := by kernel_rfl
  simp only [fn_z_form_of, m_z_form_of, mSplit, mRaise, mAsgR, mMakeR, mMethR, mNone, mFldR, e1, e2, e3, e4, e5, e6, hs, hl, hr, noX, fnSem, en0, pre0, ioOf, mSeq, mIfS, mRet, mRetN, mAsg, mAsgO, mExpr, mNext, mDead, mTest, mAnd, mOr, mNot, mIf, mAndV, mOrV, mNotV, notD, mChain, mOp1, mOp2, mC, mVar, mCall, mCons, mNil, mTup, mLst, mStar, mCallV, mCallD, mPar, mAsgG, gT, gTs, gN, setV, notIo, nxt, Rs.bind, lift, asB, one1, two1, ixD, addD, subD, lenT, lenL, lenSc, tupD, intD, eq0, dI, dB, dS, List.length_cons, List.length_nil, List.map_cons, List.map_nil, List.append_nil, List.nil_append, List.cons_append, List.getElem?_cons_zero, List.getElem?_cons_succ, List.set_cons_zero, List.set_cons_succ, List.replicate, Option.bind_some, Option.map_some, Option.bind, Nat.zero_add, Nat.add_zero, Nat.reduceAdd, Nat.reduceSub, Nat.reduceEqDiff, if_true, if_false, reduceIte, Bool.false_eq_true, Bool.not_true, Bool.not_false, Nat.reduceLT, decide_true, decide_false, mSetF, clsAt, fldS, muOf, Sl.get, Sl.put, putD, mSetFs, fldsT, fldsS, allS, mMake, mMakeL, mCm, fnN, mJs, itSeq, mMeth, beq_self_eq_true, and_self, List.isEmpty_nil, List.isEmpty_cons, Option.map, big, Nat.reduceLeDiff, Nat.zero_le, Nat.le_refl]
theorem txt_say {t : Str} {f : D} (h : fn_z_form_of none [.str t] = .ret (f, false) none) (w : sayW f = 2) : txW (.str t) = 2 := by
  unfold sayW at w
  split at w
  · cases w
  · rename_i s q
    have q2 : wD [.bl false] fn_x_Saying_uinitu (some (.ins 0 [])) [f] = .exc (.own 2 []) (some s) := q
    have e : fn_z_Saying_of_text none [.cls 0, .str t] = .exc (.own 2 []) none := by
      simp only [fn_z_Saying_of_text, m_z_Saying_of_text, mMakeLX, mMakeX, mCallX, h, q2, noX, fnSem, en0, pre0, ioOf, mSeq, mIfS, mRet, mRetN, mAsg, mAsgO, mExpr, mNext, mDead, mTest, mAnd, mOr, mNot, mIf, mAndV, mOrV, mNotV, notD, mChain, mOp1, mOp2, mC, mVar, mCall, mCons, mNil, mTup, mLst, mStar, mCallV, mCallD, mPar, mAsgG, gT, gTs, gN, setV, notIo, nxt, Rs.bind, lift, asB, one1, two1, ixD, addD, subD, lenT, lenL, lenSc, tupD, intD, eq0, dI, dB, dS, List.length_cons, List.length_nil, List.map_cons, List.map_nil, List.append_nil, List.nil_append, List.cons_append, List.getElem?_cons_zero, List.getElem?_cons_succ, List.set_cons_zero, List.set_cons_succ, List.replicate, Option.bind_some, Option.map_some, Option.bind, Nat.zero_add, Nat.add_zero, Nat.reduceAdd, Nat.reduceSub, Nat.reduceEqDiff, if_true, if_false, reduceIte, Bool.false_eq_true, Bool.not_true, Bool.not_false, Nat.reduceLT, decide_true, decide_false, mSetF, clsAt, fldS, muOf, Sl.get, Sl.put, putD, mSetFs, fldsT, fldsS, allS, mMake, mMakeL, mCm, fnN, mJs, itSeq, mMeth, beq_self_eq_true, and_self, List.isEmpty_nil, List.isEmpty_cons, Option.map, big, Nat.reduceLeDiff, Nat.zero_le, Nat.le_refl]
    unfold txW
    rw [e]
    rfl
  · cases w
theorem x197 : txW (.str (repS "not " 197 ++ "x tied y")) = 2 := by
  have hl : (repS "not " 197 ++ "x tied y").length ≤ 10000 := by rw [c197, SX.S_len]; decide +kernel
  exact txt_say (form_ok (n := 200) (split_is sp197 hl) (by kernel_rfl) (by decide) r197) s197
theorem x200 : fn_z_Saying_of_text none [.cls 0, .str (repS "not " 200 ++ "x tied y")] = .exc (.own 1 [("number", .int 200)]) none := by
  have hl : (repS "not " 200 ++ "x tied y").length ≤ 10000 := by rw [c200, SX.S_len]; decide +kernel
  exact txt_exc (form_long (n := 203) (split_is sp200 hl) (by kernel_rfl) (by decide))
theorem x201 : fn_z_Saying_of_text none [.cls 0, .str (repS "no " 201 ++ "x")] = .exc (.own 1 [("number", .int 200)]) none := by
  have hl : (repS "no " 201 ++ "x").length ≤ 10000 := by rw [c201, SX.S_len]; decide +kernel
  exact txt_exc (form_long (n := 202) (split_is sp201 hl) (by kernel_rfl) (by decide))
end PM.G

namespace PM.G
open PySem PySem.Spec L2 PM
def bigF0 : D := binF "and" (fullH (atoms.getD 0 .non)) (atoms.getD 0 .non)
def cds0 : List Nat := [40, 32, 40, 32, 40, 32, 40, 32, 40, 32, 40, 32, 40, 32, 120, 32, 116, 105, 101, 100, 32, 121, 32, 97, 110, 100, 32, 120, 32, 116, 105, 101, 100, 32, 121, 32, 41, 32, 97, 110, 100, 32, 40, 32, 120, 32, 116, 105, 101, 100, 32, 121, 32, 97, 110, 100, 32, 120, 32, 116, 105, 101, 100, 32, 121, 32, 41, 32, 41, 32, 97, 110, 100, 32, 40, 32, 40, 32, 120, 32, 116, 105, 101, 100, 32, 121, 32, 97, 110, 100, 32, 120, 32, 116, 105, 101, 100, 32, 121, 32, 41, 32, 97, 110, 100, 32, 40, 32, 120, 32, 116, 105, 101, 100, 32, 121, 32, 97, 110, 100, 32, 120, 32, 116, 105, 101, 100, 32, 121, 32, 41, 32, 41, 32, 41, 32, 97, 110, 100, 32, 40, 32, 40, 32, 40, 32, 120, 32, 116, 105, 101, 100, 32, 121, 32, 97, 110, 100, 32, 120, 32, 116, 105, 101, 100, 32, 121, 32, 41, 32, 97, 110, 100, 32, 40, 32, 120, 32, 116, 105, 101, 100, 32, 121, 32, 97, 110, 100, 32, 120, 32, 116, 105, 101, 100, 32, 121, 32, 41, 32, 41, 32, 97, 110, 100, 32, 40, 32, 40, 32, 120, 32, 116, 105, 101, 100, 32, 121, 32, 97, 110, 100, 32, 120, 32, 116, 105, 101, 100, 32, 121, 32, 41, 32, 97, 110, 100, 32, 40, 32, 120, 32, 116, 105, 101, 100, 32, 121, 32, 97, 110, 100, 32, 120, 32, 116, 105, 101, 100, 32, 121, 32, 41, 32, 41, 32, 41, 32, 41, 32, 97, 110, 100, 32, 110, 111, 116, 32, 110, 111, 116, 32, 110, 111, 116, 32, 120, 32, 116, 105, 101, 100, 32, 121, 32, 41, 32, 111, 114, 32, 110, 111, 116, 32, 110, 111, 116, 32, 120, 32, 116, 105, 101, 100, 32, 121, 32, 41, 32, 97, 110, 100, 32, 120, 32, 116, 105, 101, 100, 32, 121, 32, 41]
def wds0 : List D := [.str "(", .str "(", .str "(", .str "(", .str "(", .str "(", .str "(", .str "x", .str "tied", .str "y", .str "and", .str "x", .str "tied", .str "y", .str ")", .str "and", .str "(", .str "x", .str "tied", .str "y", .str "and", .str "x", .str "tied", .str "y", .str ")", .str ")", .str "and", .str "(", .str "(", .str "x", .str "tied", .str "y", .str "and", .str "x", .str "tied", .str "y", .str ")", .str "and", .str "(", .str "x", .str "tied", .str "y", .str "and", .str "x", .str "tied", .str "y", .str ")", .str ")", .str ")", .str "and", .str "(", .str "(", .str "(", .str "x", .str "tied", .str "y", .str "and", .str "x", .str "tied", .str "y", .str ")", .str "and", .str "(", .str "x", .str "tied", .str "y", .str "and", .str "x", .str "tied", .str "y", .str ")", .str ")", .str "and", .str "(", .str "(", .str "x", .str "tied", .str "y", .str "and", .str "x", .str "tied", .str "y", .str ")", .str "and", .str "(", .str "x", .str "tied", .str "y", .str "and", .str "x", .str "tied", .str "y", .str ")", .str ")", .str ")", .str ")", .str "and", .str "not", .str "not", .str "not", .str "x", .str "tied", .str "y", .str ")", .str "or", .str "not", .str "not", .str "x", .str "tied", .str "y", .str ")", .str "and", .str "x", .str "tied", .str "y", .str ")"]
theorem ft0 : ftD bigF0 = .str (SX.S cds0) := by kernel_rfl
theorem sl0 : ((TL.spl [32] 0 [] cds0).map SX.S).map D.str = wds0 := by kernel_rfl
theorem rd0 : fn_z_FormReader_take_form 210 (some (.rcd 3 ["own_words", "own_at"] [.lst wds0, .int 0])) [] = .ret (bigF0, false) (some (.rcd 3 ["own_words", "own_at"] [.lst wds0, .int 116])) := by kernel_rfl
theorem sy0 : sayW bigF0 = 2 := by kernel_rfl
theorem w10_0 : txW (ftD bigF0) = 2 := by
  have sp : (Txt.split (SX.S cds0) " ").map D.str = wds0 := by
    rw [b1, SX.split_S (by simp) (by decide)]
    exact sl0
  have hl : (SX.S cds0).length ≤ 10000 := by rw [SX.S_len]; decide +kernel
  rw [ft0]
  exact txt_say (form_ok (n := 116) (split_is sp hl) (by kernel_rfl) (by decide) rd0) sy0
end PM.G

namespace PM.G
open PySem PySem.Spec L2 PM
def bigF1 : D := binF "and" (fullH (atoms.getD 1 .non)) (atoms.getD 1 .non)
def cds1 : List Nat := [40, 32, 40, 32, 40, 32, 40, 32, 40, 32, 40, 32, 40, 32, 108, 101, 102, 116, 32, 115, 97, 109, 101, 32, 114, 105, 103, 104, 116, 32, 97, 110, 100, 32, 108, 101, 102, 116, 32, 115, 97, 109, 101, 32, 114, 105, 103, 104, 116, 32, 41, 32, 97, 110, 100, 32, 40, 32, 108, 101, 102, 116, 32, 115, 97, 109, 101, 32, 114, 105, 103, 104, 116, 32, 97, 110, 100, 32, 108, 101, 102, 116, 32, 115, 97, 109, 101, 32, 114, 105, 103, 104, 116, 32, 41, 32, 41, 32, 97, 110, 100, 32, 40, 32, 40, 32, 108, 101, 102, 116, 32, 115, 97, 109, 101, 32, 114, 105, 103, 104, 116, 32, 97, 110, 100, 32, 108, 101, 102, 116, 32, 115, 97, 109, 101, 32, 114, 105, 103, 104, 116, 32, 41, 32, 97, 110, 100, 32, 40, 32, 108, 101, 102, 116, 32, 115, 97, 109, 101, 32, 114, 105, 103, 104, 116, 32, 97, 110, 100, 32, 108, 101, 102, 116, 32, 115, 97, 109, 101, 32, 114, 105, 103, 104, 116, 32, 41, 32, 41, 32, 41, 32, 97, 110, 100, 32, 40, 32, 40, 32, 40, 32, 108, 101, 102, 116, 32, 115, 97, 109, 101, 32, 114, 105, 103, 104, 116, 32, 97, 110, 100, 32, 108, 101, 102, 116, 32, 115, 97, 109, 101, 32, 114, 105, 103, 104, 116, 32, 41, 32, 97, 110, 100, 32, 40, 32, 108, 101, 102, 116, 32, 115, 97, 109, 101, 32, 114, 105, 103, 104, 116, 32, 97, 110, 100, 32, 108, 101, 102, 116, 32, 115, 97, 109, 101, 32, 114, 105, 103, 104, 116, 32, 41, 32, 41, 32, 97, 110, 100, 32, 40, 32, 40, 32, 108, 101, 102, 116, 32, 115, 97, 109, 101, 32, 114, 105, 103, 104, 116, 32, 97, 110, 100, 32, 108, 101, 102, 116, 32, 115, 97, 109, 101, 32, 114, 105, 103, 104, 116, 32, 41, 32, 97, 110, 100, 32, 40, 32, 108, 101, 102, 116, 32, 115, 97, 109, 101, 32, 114, 105, 103, 104, 116, 32, 97, 110, 100, 32, 108, 101, 102, 116, 32, 115, 97, 109, 101, 32, 114, 105, 103, 104, 116, 32, 41, 32, 41, 32, 41, 32, 41, 32, 97, 110, 100, 32, 110, 111, 116, 32, 110, 111, 116, 32, 110, 111, 116, 32, 108, 101, 102, 116, 32, 115, 97, 109, 101, 32, 114, 105, 103, 104, 116, 32, 41, 32, 111, 114, 32, 110, 111, 116, 32, 110, 111, 116, 32, 108, 101, 102, 116, 32, 115, 97, 109, 101, 32, 114, 105, 103, 104, 116, 32, 41, 32, 97, 110, 100, 32, 108, 101, 102, 116, 32, 115, 97, 109, 101, 32, 114, 105, 103, 104, 116, 32, 41]
def wds1 : List D := [.str "(", .str "(", .str "(", .str "(", .str "(", .str "(", .str "(", .str "left", .str "same", .str "right", .str "and", .str "left", .str "same", .str "right", .str ")", .str "and", .str "(", .str "left", .str "same", .str "right", .str "and", .str "left", .str "same", .str "right", .str ")", .str ")", .str "and", .str "(", .str "(", .str "left", .str "same", .str "right", .str "and", .str "left", .str "same", .str "right", .str ")", .str "and", .str "(", .str "left", .str "same", .str "right", .str "and", .str "left", .str "same", .str "right", .str ")", .str ")", .str ")", .str "and", .str "(", .str "(", .str "(", .str "left", .str "same", .str "right", .str "and", .str "left", .str "same", .str "right", .str ")", .str "and", .str "(", .str "left", .str "same", .str "right", .str "and", .str "left", .str "same", .str "right", .str ")", .str ")", .str "and", .str "(", .str "(", .str "left", .str "same", .str "right", .str "and", .str "left", .str "same", .str "right", .str ")", .str "and", .str "(", .str "left", .str "same", .str "right", .str "and", .str "left", .str "same", .str "right", .str ")", .str ")", .str ")", .str ")", .str "and", .str "not", .str "not", .str "not", .str "left", .str "same", .str "right", .str ")", .str "or", .str "not", .str "not", .str "left", .str "same", .str "right", .str ")", .str "and", .str "left", .str "same", .str "right", .str ")"]
theorem ft1 : ftD bigF1 = .str (SX.S cds1) := by kernel_rfl
theorem sl1 : ((TL.spl [32] 0 [] cds1).map SX.S).map D.str = wds1 := by kernel_rfl
theorem rd1 : fn_z_FormReader_take_form 210 (some (.rcd 3 ["own_words", "own_at"] [.lst wds1, .int 0])) [] = .ret (bigF1, false) (some (.rcd 3 ["own_words", "own_at"] [.lst wds1, .int 116])) := by kernel_rfl
theorem sy1 : sayW bigF1 = 2 := by kernel_rfl
theorem w10_1 : txW (ftD bigF1) = 2 := by
  have sp : (Txt.split (SX.S cds1) " ").map D.str = wds1 := by
    rw [b1, SX.split_S (by simp) (by decide)]
    exact sl1
  have hl : (SX.S cds1).length ≤ 10000 := by rw [SX.S_len]; decide +kernel
  rw [ft1]
  exact txt_say (form_ok (n := 116) (split_is sp hl) (by kernel_rfl) (by decide) rd1) sy1
end PM.G

namespace PM.G
open PySem PySem.Spec L2 PM
def bigF2 : D := binF "and" (fullH (atoms.getD 2 .non)) (atoms.getD 2 .non)
def cds2 : List Nat := [40, 32, 40, 32, 40, 32, 40, 32, 40, 32, 40, 32, 40, 32, 122, 32, 105, 110, 32, 90, 32, 97, 110, 100, 32, 122, 32, 105, 110, 32, 90, 32, 41, 32, 97, 110, 100, 32, 40, 32, 122, 32, 105, 110, 32, 90, 32, 97, 110, 100, 32, 122, 32, 105, 110, 32, 90, 32, 41, 32, 41, 32, 97, 110, 100, 32, 40, 32, 40, 32, 122, 32, 105, 110, 32, 90, 32, 97, 110, 100, 32, 122, 32, 105, 110, 32, 90, 32, 41, 32, 97, 110, 100, 32, 40, 32, 122, 32, 105, 110, 32, 90, 32, 97, 110, 100, 32, 122, 32, 105, 110, 32, 90, 32, 41, 32, 41, 32, 41, 32, 97, 110, 100, 32, 40, 32, 40, 32, 40, 32, 122, 32, 105, 110, 32, 90, 32, 97, 110, 100, 32, 122, 32, 105, 110, 32, 90, 32, 41, 32, 97, 110, 100, 32, 40, 32, 122, 32, 105, 110, 32, 90, 32, 97, 110, 100, 32, 122, 32, 105, 110, 32, 90, 32, 41, 32, 41, 32, 97, 110, 100, 32, 40, 32, 40, 32, 122, 32, 105, 110, 32, 90, 32, 97, 110, 100, 32, 122, 32, 105, 110, 32, 90, 32, 41, 32, 97, 110, 100, 32, 40, 32, 122, 32, 105, 110, 32, 90, 32, 97, 110, 100, 32, 122, 32, 105, 110, 32, 90, 32, 41, 32, 41, 32, 41, 32, 41, 32, 97, 110, 100, 32, 110, 111, 116, 32, 110, 111, 116, 32, 110, 111, 116, 32, 122, 32, 105, 110, 32, 90, 32, 41, 32, 111, 114, 32, 110, 111, 116, 32, 110, 111, 116, 32, 122, 32, 105, 110, 32, 90, 32, 41, 32, 97, 110, 100, 32, 122, 32, 105, 110, 32, 90, 32, 41]
def wds2 : List D := [.str "(", .str "(", .str "(", .str "(", .str "(", .str "(", .str "(", .str "z", .str "in", .str "Z", .str "and", .str "z", .str "in", .str "Z", .str ")", .str "and", .str "(", .str "z", .str "in", .str "Z", .str "and", .str "z", .str "in", .str "Z", .str ")", .str ")", .str "and", .str "(", .str "(", .str "z", .str "in", .str "Z", .str "and", .str "z", .str "in", .str "Z", .str ")", .str "and", .str "(", .str "z", .str "in", .str "Z", .str "and", .str "z", .str "in", .str "Z", .str ")", .str ")", .str ")", .str "and", .str "(", .str "(", .str "(", .str "z", .str "in", .str "Z", .str "and", .str "z", .str "in", .str "Z", .str ")", .str "and", .str "(", .str "z", .str "in", .str "Z", .str "and", .str "z", .str "in", .str "Z", .str ")", .str ")", .str "and", .str "(", .str "(", .str "z", .str "in", .str "Z", .str "and", .str "z", .str "in", .str "Z", .str ")", .str "and", .str "(", .str "z", .str "in", .str "Z", .str "and", .str "z", .str "in", .str "Z", .str ")", .str ")", .str ")", .str ")", .str "and", .str "not", .str "not", .str "not", .str "z", .str "in", .str "Z", .str ")", .str "or", .str "not", .str "not", .str "z", .str "in", .str "Z", .str ")", .str "and", .str "z", .str "in", .str "Z", .str ")"]
theorem ft2 : ftD bigF2 = .str (SX.S cds2) := by kernel_rfl
theorem sl2 : ((TL.spl [32] 0 [] cds2).map SX.S).map D.str = wds2 := by kernel_rfl
theorem rd2 : fn_z_FormReader_take_form 210 (some (.rcd 3 ["own_words", "own_at"] [.lst wds2, .int 0])) [] = .ret (bigF2, false) (some (.rcd 3 ["own_words", "own_at"] [.lst wds2, .int 116])) := by kernel_rfl
theorem sy2 : sayW bigF2 = 2 := by kernel_rfl
theorem w10_2 : txW (ftD bigF2) = 2 := by
  have sp : (Txt.split (SX.S cds2) " ").map D.str = wds2 := by
    rw [b1, SX.split_S (by simp) (by decide)]
    exact sl2
  have hl : (SX.S cds2).length ≤ 10000 := by rw [SX.S_len]; decide +kernel
  rw [ft2]
  exact txt_say (form_ok (n := 116) (split_is sp hl) (by kernel_rfl) (by decide) rd2) sy2
end PM.G

namespace PM.G
open PySem PySem.Spec L2 PM
def bigF3 : D := binF "and" (fullH (atoms.getD 3 .non)) (atoms.getD 3 .non)
def cds3 : List Nat := [40, 32, 40, 32, 40, 32, 40, 32, 40, 32, 40, 32, 40, 32, 108, 101, 102, 116, 32, 116, 105, 101, 100, 32, 97, 32, 97, 110, 100, 32, 108, 101, 102, 116, 32, 116, 105, 101, 100, 32, 97, 32, 41, 32, 97, 110, 100, 32, 40, 32, 108, 101, 102, 116, 32, 116, 105, 101, 100, 32, 97, 32, 97, 110, 100, 32, 108, 101, 102, 116, 32, 116, 105, 101, 100, 32, 97, 32, 41, 32, 41, 32, 97, 110, 100, 32, 40, 32, 40, 32, 108, 101, 102, 116, 32, 116, 105, 101, 100, 32, 97, 32, 97, 110, 100, 32, 108, 101, 102, 116, 32, 116, 105, 101, 100, 32, 97, 32, 41, 32, 97, 110, 100, 32, 40, 32, 108, 101, 102, 116, 32, 116, 105, 101, 100, 32, 97, 32, 97, 110, 100, 32, 108, 101, 102, 116, 32, 116, 105, 101, 100, 32, 97, 32, 41, 32, 41, 32, 41, 32, 97, 110, 100, 32, 40, 32, 40, 32, 40, 32, 108, 101, 102, 116, 32, 116, 105, 101, 100, 32, 97, 32, 97, 110, 100, 32, 108, 101, 102, 116, 32, 116, 105, 101, 100, 32, 97, 32, 41, 32, 97, 110, 100, 32, 40, 32, 108, 101, 102, 116, 32, 116, 105, 101, 100, 32, 97, 32, 97, 110, 100, 32, 108, 101, 102, 116, 32, 116, 105, 101, 100, 32, 97, 32, 41, 32, 41, 32, 97, 110, 100, 32, 40, 32, 40, 32, 108, 101, 102, 116, 32, 116, 105, 101, 100, 32, 97, 32, 97, 110, 100, 32, 108, 101, 102, 116, 32, 116, 105, 101, 100, 32, 97, 32, 41, 32, 97, 110, 100, 32, 40, 32, 108, 101, 102, 116, 32, 116, 105, 101, 100, 32, 97, 32, 97, 110, 100, 32, 108, 101, 102, 116, 32, 116, 105, 101, 100, 32, 97, 32, 41, 32, 41, 32, 41, 32, 41, 32, 97, 110, 100, 32, 110, 111, 116, 32, 110, 111, 116, 32, 110, 111, 116, 32, 108, 101, 102, 116, 32, 116, 105, 101, 100, 32, 97, 32, 41, 32, 111, 114, 32, 110, 111, 116, 32, 110, 111, 116, 32, 108, 101, 102, 116, 32, 116, 105, 101, 100, 32, 97, 32, 41, 32, 97, 110, 100, 32, 108, 101, 102, 116, 32, 116, 105, 101, 100, 32, 97, 32, 41]
def wds3 : List D := [.str "(", .str "(", .str "(", .str "(", .str "(", .str "(", .str "(", .str "left", .str "tied", .str "a", .str "and", .str "left", .str "tied", .str "a", .str ")", .str "and", .str "(", .str "left", .str "tied", .str "a", .str "and", .str "left", .str "tied", .str "a", .str ")", .str ")", .str "and", .str "(", .str "(", .str "left", .str "tied", .str "a", .str "and", .str "left", .str "tied", .str "a", .str ")", .str "and", .str "(", .str "left", .str "tied", .str "a", .str "and", .str "left", .str "tied", .str "a", .str ")", .str ")", .str ")", .str "and", .str "(", .str "(", .str "(", .str "left", .str "tied", .str "a", .str "and", .str "left", .str "tied", .str "a", .str ")", .str "and", .str "(", .str "left", .str "tied", .str "a", .str "and", .str "left", .str "tied", .str "a", .str ")", .str ")", .str "and", .str "(", .str "(", .str "left", .str "tied", .str "a", .str "and", .str "left", .str "tied", .str "a", .str ")", .str "and", .str "(", .str "left", .str "tied", .str "a", .str "and", .str "left", .str "tied", .str "a", .str ")", .str ")", .str ")", .str ")", .str "and", .str "not", .str "not", .str "not", .str "left", .str "tied", .str "a", .str ")", .str "or", .str "not", .str "not", .str "left", .str "tied", .str "a", .str ")", .str "and", .str "left", .str "tied", .str "a", .str ")"]
theorem ft3 : ftD bigF3 = .str (SX.S cds3) := by kernel_rfl
theorem sl3 : ((TL.spl [32] 0 [] cds3).map SX.S).map D.str = wds3 := by kernel_rfl
theorem rd3 : fn_z_FormReader_take_form 210 (some (.rcd 3 ["own_words", "own_at"] [.lst wds3, .int 0])) [] = .ret (bigF3, false) (some (.rcd 3 ["own_words", "own_at"] [.lst wds3, .int 116])) := by kernel_rfl
theorem sy3 : sayW bigF3 = 2 := by kernel_rfl
theorem w10_3 : txW (ftD bigF3) = 2 := by
  have sp : (Txt.split (SX.S cds3) " ").map D.str = wds3 := by
    rw [b1, SX.split_S (by simp) (by decide)]
    exact sl3
  have hl : (SX.S cds3).length ≤ 10000 := by rw [SX.S_len]; decide +kernel
  rw [ft3]
  exact txt_say (form_ok (n := 116) (split_is sp hl) (by kernel_rfl) (by decide) rd3) sy3
end PM.G

namespace PM.G
open PySem PySem.Spec L2 PM
def oddL : List D := [.non,
  .int 0,
  .str "x tied y",
  .tup [],
  .lst [.str "tied", .str "x", .str "y"],
  .tup [.str "tied", .str "x"],
  .tup [.str "tied", .str "x", .str "y", .str "z"],
  .tup [.str "tied", .str "x", .str "Y"],
  .tup [.str "tied", .str "x", .str "xy"],
  .tup [.str "in", .str "x", .str "a"],
  .tup [.str "in", .str "A", .str "A"],
  .tup [.str "in", .str "x", .str "left"],
  .tup [.str "same", .str "", .str "x"],
  .tup [.str "tied", .int 1, .str "x"],
  .tup [.str "Tied", .str "x", .str "y"],
  .dct [] [],
  .tup [.str "not"],
  .tup [.str "not", .tup [.str "tied", .str "x", .str "y"], .tup [.str "tied", .str "x", .str "y"]],
  .tup [.str "not", .non],
  .tup [.str "and", .tup [.str "tied", .str "x", .str "y"]],
  .tup [.str "and", .tup [.str "tied", .str "x", .str "y"], .tup [.str "tied", .str "x", .str "y"], .tup [.str "tied", .str "x", .str "y"]],
  .tup [.str "or", .tup [.str "tied", .str "x", .str "y"], .str "x tied y"],
  .tup [.str "some", .str "x"],
  .tup [.str "some", .str "left", .tup [.str "tied", .str "x", .str "y"]],
  .tup [.str "some", .str "xy", .tup [.str "tied", .str "x", .str "y"]],
  .tup [.str "each", .int 1, .tup [.str "tied", .str "x", .str "y"]],
  .tup [.str "some", .tup [.str "tied", .str "x", .str "y"], .str "x"],
  .tup [.str "each", .str "", .tup [.str "tied", .str "x", .str "y"]],
  .tup [.str "not", .lst [.str "tied", .str "x", .str "y"]],
  .tup [.tup [.str "tied", .str "x", .str "y"]],
  .tup [.str "some", .lst [.str "x"], .tup [.str "tied", .str "x", .str "y"]],
  .tup [.str "tied", .tup [.str "x"], .str "y"],
  .tup [.str "tied", .str "left", .str "Right"],
  .bl true]
theorem odd_say : oddL.map sayW = oddL.map (fun _ => 2) := by kernel_rfl
theorem odd_at {d : D} (h : d ∈ oddL) : sayW d = 2 := map_at odd_say d h
theorem odd_len : oddL.length = 34 := by kernel_rfl
def vs0 : MS := (mAsg 1 (mTup (mCons (mC (.str "tied")) (mCons (mC (.str "x")) (mCons (mC (.str "y")) mNil)))))
def vs1 : MS := (mAsg 2 (mLst (mCons (mC .non) (mCons (mC (.int 0)) (mCons (mC (.str "x tied y")) (mCons (mTup mNil) (mCons (mLst (mCons (mC (.str "tied")) (mCons (mC (.str "x")) (mCons (mC (.str "y")) mNil)))) (mCons (mTup (mCons (mC (.str "tied")) (mCons (mC (.str "x")) mNil))) (mCons (mTup (mCons (mC (.str "tied")) (mCons (mC (.str "x")) (mCons (mC (.str "y")) (mCons (mC (.str "z")) mNil))))) (mCons (mTup (mCons (mC (.str "tied")) (mCons (mC (.str "x")) (mCons (mC (.str "Y")) mNil)))) (mCons (mTup (mCons (mC (.str "tied")) (mCons (mC (.str "x")) (mCons (mC (.str "xy")) mNil)))) mNil)))))))))))
def vs2 : MS := (mAsg 2 (mOp2 addD (mVar 2) (mLst (mCons (mTup (mCons (mC (.str "in")) (mCons (mC (.str "x")) (mCons (mC (.str "a")) mNil)))) (mCons (mTup (mCons (mC (.str "in")) (mCons (mC (.str "A")) (mCons (mC (.str "A")) mNil)))) (mCons (mTup (mCons (mC (.str "in")) (mCons (mC (.str "x")) (mCons (mC (.str "left")) mNil)))) (mCons (mTup (mCons (mC (.str "same")) (mCons (mC (.str "")) (mCons (mC (.str "x")) mNil)))) (mCons (mTup (mCons (mC (.str "tied")) (mCons (mC (.int 1)) (mCons (mC (.str "x")) mNil)))) (mCons (mTup (mCons (mC (.str "Tied")) (mCons (mC (.str "x")) (mCons (mC (.str "y")) mNil)))) (mCons mDct0 mNil))))))))))
def vs3 : MS := (mAsg 2 (mOp2 addD (mVar 2) (mLst (mCons (mTup (mCons (mC (.str "not")) mNil)) (mCons (mTup (mCons (mC (.str "not")) (mCons (mVar 1) (mCons (mVar 1) mNil)))) (mCons (mTup (mCons (mC (.str "not")) (mCons (mC .non) mNil))) (mCons (mTup (mCons (mC (.str "and")) (mCons (mVar 1) mNil))) (mCons (mTup (mCons (mC (.str "and")) (mCons (mVar 1) (mCons (mVar 1) (mCons (mVar 1) mNil))))) (mCons (mTup (mCons (mC (.str "or")) (mCons (mVar 1) (mCons (mC (.str "x tied y")) mNil)))) mNil)))))))))
def vs4 : MS := (mAsg 2 (mOp2 addD (mVar 2) (mLst (mCons (mTup (mCons (mC (.str "some")) (mCons (mC (.str "x")) mNil))) (mCons (mTup (mCons (mC (.str "some")) (mCons (mC (.str "left")) (mCons (mVar 1) mNil)))) (mCons (mTup (mCons (mC (.str "some")) (mCons (mC (.str "xy")) (mCons (mVar 1) mNil)))) (mCons (mTup (mCons (mC (.str "each")) (mCons (mC (.int 1)) (mCons (mVar 1) mNil)))) (mCons (mTup (mCons (mC (.str "some")) (mCons (mVar 1) (mCons (mC (.str "x")) mNil)))) (mCons (mTup (mCons (mC (.str "each")) (mCons (mC (.str "")) (mCons (mVar 1) mNil)))) mNil)))))))))
def vs5 : MS := (mAsg 2 (mOp2 addD (mVar 2) (mLst (mCons (mTup (mCons (mC (.str "not")) (mCons (mLst (mCons (mC (.str "tied")) (mCons (mC (.str "x")) (mCons (mC (.str "y")) mNil)))) mNil))) (mCons (mTup (mCons (mVar 1) mNil)) (mCons (mTup (mCons (mC (.str "some")) (mCons (mLst (mCons (mC (.str "x")) mNil)) (mCons (mVar 1) mNil)))) (mCons (mTup (mCons (mC (.str "tied")) (mCons (mTup (mCons (mC (.str "x")) mNil)) (mCons (mC (.str "y")) mNil)))) (mCons (mTup (mCons (mC (.str "tied")) (mCons (mC (.str "left")) (mCons (mC (.str "Right")) mNil)))) (mCons (mC (.bl true)) mNil)))))))))
theorem vals_eq : m_l_values_right = mSeq vs0 (mSeq vs1 (mSeq vs2 (mSeq vs3 (mSeq vs4 (mSeq vs5 (mRet (mOp2 eqD c_l_values_right_0 (mLst mNil)))))))) := rfl
theorem vals_pre (m : Mu) : (mSeq vs0 (mSeq vs1 (mSeq vs2 (mSeq vs3 (mSeq vs4 vs5))))) [.io m, .non, .non, .non] = .ok .nx [.io m, .val (atoms.getD 0 .non), .val (.lst oddL), .non] := by kernel_rfl
end PM.G

namespace PM.G
open PySem PySem.Spec L2 PM
theorem seqA (a b c : MS) (ρ : En) : mSeq (mSeq a b) c ρ = mSeq a (mSeq b c) ρ := by
  unfold mSeq
  cases a ρ with
  | ok f ρ1 => cases f <;> rfl
  | exc x ρ1 => rfl
  | stuck => rfl
theorem cut_mem {d : D} {xs : List D} {lo hi : Option Int} (h : d ∈ cutD xs lo hi) : d ∈ xs := by
  unfold cutD at h
  first
    | exact List.mem_of_mem_take (List.mem_of_mem_drop h)
    | exact List.mem_of_mem_drop (List.mem_of_mem_take h)
abbrev vE (m : Mu) (s : Sl) : En := [.io m, .val (atoms.getD 0 .non), .val (.lst oddL), s]
abbrev vT : MT := mTest (mOp2 neD (tld (mkS (mCons (mVar 3) mNil))) (mC (.str "saying")))
theorem vT_no {m : Mu} {d : D} (h : d ∈ oddL) : vT (vE m (.val d)) = .ok false (vE m (.val d)) := by
  have e := mkS_2 (mr := mCons (mVar 3) mNil) (ρ := vE m (.val d)) (ρ1 := vE m (.val d)) (d := d) rfl (odd_at h)
  unfold vT mTest mOp2
  rw [e]
  have n : neD (.str "saying") (.str "saying") = some (.bl false, false) := by kernel_rfl
  simp only [Rs.bind, mC, n, lift, asB]
theorem none_pass {m : Mu} : ∀ (ds acc : List D), (∀ d ∈ ds, d ∈ oddL) → mLcLoop (gN 3) [3] vT (mVar 3) ds acc (vE m .non) = .ok acc (vE m .non)
  | [], acc, _ => rfl
  | d :: ds, acc, h => by
    have g : gN 3 d (vE m .non) = some (vE m (.val d)) := rfl
    unfold mLcLoop
    simp only [g, vT_no (m := m) (h d (List.mem_cons_self ..)), Bool.false_eq_true, if_false]
    exact none_pass ds acc fun x hx => h x (List.mem_cons_of_mem _ hx)
theorem values_ok (m : Mu) (k : Nat) (hk : k ≤ 800000) (hd : DiceK k m) : ∃ m', fn_l_values_right (some m) [] = .ret (.bl true, false) (some m') ∧ DiceK (k + 100) m' := by
  obtain ⟨ys, m', e, p, dk⟩ := mixed_ok oddL m k (by rw [odd_len]; omega) hk hd
  refine ⟨m', ?_, dk⟩
  have ec : mCallD fn_l_mixed 0 (mCons (mVar 2) mNil) (vE m .non) = .ok (.lst ys, true) (vE m' .non) := callD1_eq rfl rfl e
  have ei : mIt itL (mSl (mCallD fn_l_mixed 0 (mCons (mVar 2) mNil)) mNo (mPart (mC (.int 20)))) (vE m .non) = .ok (cutD ys none (some 20)) (vE m' .non) := by
    unfold mIt mSl mPart mNo
    rw [ec]
    rfl
  have el : c_l_values_right_0 (vE m .non) = .ok (.lst [], true) (vE m' .non) := by
    show mLc (mIt itL (mSl (mCallD fn_l_mixed 0 (mCons (mVar 2) mNil)) mNo (mPart (mC (.int 20))))) [3] (gN 3) vT (mVar 3) (vE m .non) = _
    unfold mLc
    rw [ei]
    have q : wipeE (vE m' .non) [3] = vE m' .non := rfl
    simp only [Rs.bind, q]
    rw [none_pass (m := m') _ [] fun d hd => p.mem_iff.mp (cut_mem hd)]
    simp only [q]
  have er : m_l_values_right [.io m, .non, .non, .non] = .ok (.rt (.bl true, false)) (vE m' .non) := by
    rw [vals_eq]
    have a := vals_pre m
    have b : mSeq (mSeq vs0 (mSeq vs1 (mSeq vs2 (mSeq vs3 (mSeq vs4 vs5))))) (mRet (mOp2 eqD c_l_values_right_0 (mLst mNil))) [.io m, .non, .non, .non] = .ok (.rt (.bl true, false)) (vE m' .non) := by
      show (match (mSeq vs0 (mSeq vs1 (mSeq vs2 (mSeq vs3 (mSeq vs4 vs5))))) [.io m, .non, .non, .non] with
        | .ok .nx ρ1 => mRet (mOp2 eqD c_l_values_right_0 (mLst mNil)) ρ1
        | r => r) = _
      rw [a]
      show mRet (mOp2 eqD c_l_values_right_0 (mLst mNil)) (vE m .non) = _
      unfold mRet mOp2
      rw [el]
      rfl
    have sa : ∀ (a b c : MS), mSeq (mSeq a b) c = mSeq a (mSeq b c) := fun a b c => funext fun ρ => seqA a b c ρ
    rw [sa, sa, sa, sa, sa] at b
    exact b
  have fs : fnSem 4 1 m_l_values_right (some m) [] = .ret (.bl true, false) (some m') := by
    show (match m_l_values_right [.io m, .non, .non, .non] with
      | .ok (.rt x) ρ => (match ioOf (some m) ρ with
        | some m => (.ret x m : Fs)
        | none => .stuck)
      | .ok .nx ρ => (match ioOf (some m) ρ with
        | some m => .ret (.non, false) m
        | none => .stuck)
      | .exc x ρ => (match ioOf (some m) ρ with
        | some m => .exc x m
        | none => .stuck)
      | _ => .stuck) = _
    rw [er]
    rfl
  unfold fn_l_values_right noX
  rw [fs]
end PM.G

namespace PM.G
open PySem PySem.Spec L2 PM
def ls0 : MS := (mAsg 1 (mCallD fn_l_pick 0 (mCons (mLst (mCons (mTup (mCons (mC (.str "tied")) (mCons (mC (.str "x")) (mCons (mC (.str "y")) mNil)))) (mCons (mTup (mCons (mC (.str "same")) (mCons (mC (.str "left")) (mCons (mC (.str "right")) mNil)))) (mCons (mTup (mCons (mC (.str "in")) (mCons (mC (.str "z")) (mCons (mC (.str "Z")) mNil)))) (mCons (mTup (mCons (mC (.str "tied")) (mCons (mC (.str "left")) (mCons (mC (.str "a")) mNil)))) mNil))))) mNil)))
def ls1 : MS := (mAsgG (gT [(gN 9), (gN 10)]) (mTup (mCons (mVar 1) (mCons (mVar 1) mNil))))
def ls2 : MS := p_l_limits_right_0
def ls3 : MS := p_l_limits_right_1
def ls4 : MS := (mAsg 4 (mTup (mCons (mC (.str "and")) (mCons (mVar 10) (mCons (mTup (mCons (mC (.str "some")) (mCons (mC (.str "x")) (mCons (mVar 1) mNil)))) mNil)))))
def ls5 : MS := (mAsg 5 (mTup (mCons (mC (.str "or")) (mCons (mTup (mCons (mC (.str "and")) (mCons (mCallV (fn_l_full 6) (mCons (mC (.int 5)) (mCons (mVar 1) mNil))) (mCons (mTup (mCons (mC (.str "not")) (mCons (mTup (mCons (mC (.str "not")) (mCons (mTup (mCons (mC (.str "not")) (mCons (mVar 1) mNil))) mNil))) mNil))) mNil)))) (mCons (mTup (mCons (mC (.str "not")) (mCons (mTup (mCons (mC (.str "not")) (mCons (mVar 1) mNil))) mNil))) mNil)))))
def ls6 : MS := (mAsgO 6 (mLst (mCons (mToldX excL tc_l_word (some "fine") (mMakeX 0 (wD [.bl false] fn_x_Saying_uinitu) (mCons (mVar 9) mNil))) mNil)))
def ls7 : MS := (mExpr (mAppend 6 (mCons (mToldX excL tc_l_word (some "fine") (mMakeX 0 (wD [.bl false] fn_x_Saying_uinitu) (mCons (mTup (mCons (mC (.str "not")) (mCons (mVar 9) mNil))) mNil))) mNil)))
def ls8 : MS := (mExpr (mAppend 6 (mCons (mToldX excL tc_l_word (some "fine") (mMakeX 0 (wD [.bl false] fn_x_Saying_uinitu) (mCons (mVar 10) mNil))) mNil)))
def ls9 : MS := (mExpr (mAppend 6 (mCons (mToldX excL tc_l_word (some "fine") (mMakeX 0 (wD [.bl false] fn_x_Saying_uinitu) (mCons (mTup (mCons (mC (.str "some")) (mCons (mC (.str "q")) (mCons (mVar 10) mNil)))) mNil))) mNil)))
def ls10 : MS := (mExpr (mAppend 6 (mCons (mToldX excL tc_l_word (some "fine") (mMakeX 0 (wD [.bl false] fn_x_Saying_uinitu) (mCons (mVar 4) mNil))) mNil)))
def ls11 : MS := (mExpr (mAppend 6 (mCons (mToldX excL tc_l_word (some "fine") (mMakeX 0 (wD [.bl false] fn_x_Saying_uinitu) (mCons (mVar 5) mNil))) mNil)))
def ls12 : MS := (mExpr (mAppend 6 (mCons (mToldX excL tc_l_word (some "fine") (mMakeX 0 (wD [.bl false] fn_x_Saying_uinitu) (mCons (mTup (mCons (mC (.str "not")) (mCons (mVar 5) mNil))) mNil))) mNil)))
def ls13 : MS := (mExpr (mAppend 6 (mCons (mToldX excL tc_l_word (some "fine") (mMakeX 0 (wD [.bl false] fn_x_Saying_uinitu) (mCons (mTup (mCons (mC (.str "and")) (mCons (mVar 5) (mCons (mVar 1) mNil)))) mNil))) mNil)))
def ls14 : MS := (mExpr (mAppend 6 (mCons (mToldX excL tc_l_word (some "fine") (mCmX 0 fn_z_Saying_of_text (mCons (mCallV (fn_l_form_text 12) (mCons (mTup (mCons (mC (.str "not")) (mCons (mVar 9) mNil))) mNil)) mNil))) mNil)))
def ls15 : MS := (mExpr (mAppend 6 (mCons (mToldX excL tc_l_word (some "fine") (mCmX 0 fn_z_Saying_of_text (mCons (mCallV (fn_l_form_text 12) (mCons (mTup (mCons (mC (.str "and")) (mCons (mVar 5) (mCons (mVar 1) mNil)))) mNil)) mNil))) mNil)))
def ls16 : MS := (mAsg 7 (mLst (mCons (mC (.str "fine")) (mCons (mC (.str "saying")) (mCons (mC (.str "fine")) (mCons (mC (.str "saying")) (mCons (mC (.str "fine")) mNil)))))))
def ls17 : MS := (mAsg 8 (mLst (mCons (mCallV fn_l_is_small (mCons (mVar 5) mNil)) (mCons (mCallV fn_l_is_small (mCons (mTup (mCons (mC (.str "not")) (mCons (mVar 5) mNil))) mNil)) (mCons (mCallV fn_l_is_small (mCons (mTup (mCons (mC (.str "and")) (mCons (mVar 5) (mCons (mVar 1) mNil)))) mNil)) mNil)))))
def ls18 : MS := (mAsg 7 (mOp2 addD (mOp2 addD (mVar 7) c_l_limits_right_2) (mLst (mCons (mC (.str "saying")) (mCons (mC (.str "saying")) mNil)))))
def ls19 : MS := (mRet (mAndV (mOp2 eqD (mGive 6) (mVar 7)) (mOp2 eqD (mLst (mCons (mCallV (fn_l_size_of 12) (mCons (mVar 5) mNil)) (mCons (mVar 8) mNil))) (mLst (mCons (mC (.int 40)) (mCons (mLst (mCons (mC (.bl true)) (mCons (mC (.bl false)) (mCons (mC (.bl false)) mNil)))) mNil))))))
theorem limits_eq : m_l_limits_right = mSeq ls0 (mSeq ls1 (mSeq ls2 (mSeq ls3 (mSeq ls4 (mSeq ls5 (mSeq ls6 (mSeq ls7 (mSeq ls8 (mSeq ls9 (mSeq ls10 (mSeq ls11 (mSeq ls12 (mSeq ls13 (mSeq ls14 (mSeq ls15 (mSeq ls16 (mSeq ls17 (mSeq ls18 (ls19))))))))))))))))))) := rfl
/-- behind the first draw: both forms begun, the deep one made -/
theorem lsPre (m : Mu) (a : D) : mSeq ls1 ls2 [.io m, .val a, .non, .non, .non, .non, .non, .non, .non, .non, .non, .non] = .ok .nx [.io m, .val a, .val (.int 6), .non, .non, .non, .non, .non, .non, .val (deepF a), .val a, .non] := by kernel_rfl
theorem ls4_ok (m : Mu) (a n s2 s3 d : D) : ls4 [.io m, .val a, .val s2, .val s3, .non, .non, .non, .non, .non, .val d, .val n, .non] = .ok .nx [.io m, .val a, .val s2, .val s3, .val (binF "and" n (chF (.str "some") (.str "x") a)), .non, .non, .non, .non, .val d, .val n, .non] := by kernel_rfl
theorem ls5_ok (m : Mu) (a n s2 s3 s4 d : D) : ls5 [.io m, .val a, .val s2, .val s3, .val s4, .non, .non, .non, .non, .val d, .val n, .non] = .ok .nx [.io m, .val a, .val s2, .val s3, .val s4, .val (fullH a), .non, .non, .non, .val d, .val n, .non] := by kernel_rfl
theorem small1 : atoms.map (fun a => fn_l_is_small none [fullH a]) = atoms.map (fun _ => .ret (.bl true, false) none) := by kernel_rfl
theorem small2 : atoms.map (fun a => fn_l_is_small none [notF (fullH a)]) = atoms.map (fun _ => .ret (.bl false, false) none) := by kernel_rfl
theorem small3 : atoms.map (fun a => fn_l_is_small none [binF "and" (fullH a) a]) = atoms.map (fun _ => .ret (.bl false, false) none) := by kernel_rfl
theorem size40 : atoms.map (fun a => fn_l_size_of 12 none [fullH a]) = atoms.map (fun _ => .ret (.int 40, false) none) := by kernel_rfl
theorem ftN : atoms.map (fun a => fn_l_form_text 12 none [notF (deepF a)]) = atoms.map (fun a => .ret (ftD (notF (deepF a)), false) none) := by kernel_rfl
end PM.G

namespace PM.G
open PySem PySem.Spec L2 PM
theorem lst_eq {mr : MA} {ρ ρ1 : En} {ds : List D} (h : mr ρ = .ok ds ρ1) (hl : ds.length ≤ 1000) : mLst mr ρ = .ok (.lst ds, true) ρ1 := by
  unfold mLst
  rw [h]
  show (if ds.length ≤ sizeLine then (.ok (.lst ds, true) ρ1 : Rs Vl) else .stuck) = _
  rw [if_pos (by rw [big]; omega)]
theorem cons1 {m : ME} {ρ ρ1 : En} {x : D} {b : Bool} (h : m ρ = .ok (x, b) ρ1) : mCons m mNil ρ = .ok [x] ρ1 := by
  unfold mCons mNil
  rw [h]
  rfl
section
variable {m : Mu} {a n s2 s3 : D}
abbrev wdF (a n : D) : D := binF "and" n (chF (.str "some") (.str "x") a)
abbrev eN (m : Mu) (a n s2 s3 : D) : En := [.io m, .val a, .val s2, .val s3, .val (wdF a n), .val (fullH a), .non, .non, .non, .val (deepF a), .val n, .non]
abbrev eL (m : Mu) (a n s2 s3 : D) (l : List D) : En := [.io m, .val a, .val s2, .val s3, .val (wdF a n), .val (fullH a), .own (.lst l), .non, .non, .val (deepF a), .val n, .non]
theorem app6 {X : ME} {w : D} {l : List D} (hl : l.length < 20) (h : tld X (eL m a n s2 s3 l) = .ok (w, false) (eL m a n s2 s3 l)) : mExpr (mAppend 6 (mCons (tld X) mNil)) (eL m a n s2 s3 l) = .ok .nx (eL m a n s2 s3 (l ++ [w])) :=
  app_eq (i := 6) (mr := mCons (tld X) mNil) (ρ := eL m a n s2 s3 l) (ρ1 := eL m a n s2 s3 l) (y := w) (l := l) (z := .own (.lst l)) rfl (cons1 h) rfl (by rw [big]; omega)
theorem ft_at (ha : a ∈ atoms) : fn_l_form_text 12 none [notF (deepF a)] = .ret (ftD (notF (deepF a)), false) none := map_at ftN a ha
theorem tells (ha : a ∈ atoms) (hn : n ∈ nests a) (hb : fn_l_form_text 12 none [binF "and" (fullH a) a] = .ret (ftD (binF "and" (fullH a) a), false) none) (h10 : txW (ftD (binF "and" (fullH a) a)) = 2)
    (w1 : sayW (deepF a) = 1) (w2 : sayW (notF (deepF a)) = 2) (w3 : sayW n = 1) (w4 : sayW (chF (.str "some") (.str "q") n) = 2) (w5 : sayW (wdF a n) = 1) (w6 : sayW (fullH a) = 1) (w7 : sayW (notF (fullH a)) = 2) (w8 : sayW (binF "and" (fullH a) a) = 2) (w9 : txW (ftD (notF (deepF a))) = 2) :
    mSeq ls6 (mSeq ls7 (mSeq ls8 (mSeq ls9 (mSeq ls10 (mSeq ls11 (mSeq ls12 (mSeq ls13 (mSeq ls14 ls15)))))))) (eN m a n s2 s3) = .ok .nx (eL m a n s2 s3 [.str "fine", .str "saying", .str "fine", .str "saying", .str "fine", .str "fine", .str "saying", .str "saying", .str "saying", .str "saying"]) := by
  have c6 : ls6 (eN m a n s2 s3) = .ok .nx (eL m a n s2 s3 [.str "fine"]) := by
    have e := mkS_1 (mr := mCons (mVar 9) mNil) (ρ := eN m a n s2 s3) (ρ1 := eN m a n s2 s3) rfl w1
    exact asgO_eq (ρ1 := eN m a n s2 s3) (lst_eq (cons1 e) (by simp)) rfl
  rw [seq_nx c6]
  rw [seq_nx (show ls7 _ = _ from app6 (by decide) (mkS_2 rfl w2))]
  rw [seq_nx (show ls8 _ = _ from app6 (by decide) (mkS_1 rfl w3))]
  rw [seq_nx (show ls9 _ = _ from app6 (by decide) (mkS_2 rfl w4))]
  rw [seq_nx (show ls10 _ = _ from app6 (by decide) (mkS_1 rfl w5))]
  rw [seq_nx (show ls11 _ = _ from app6 (by decide) (mkS_1 rfl w6))]
  rw [seq_nx (show ls12 _ = _ from app6 (by decide) (mkS_2 rfl w7))]
  rw [seq_nx (show ls13 _ = _ from app6 (by decide) (mkS_2 rfl w8))]
  rw [seq_nx (show ls14 _ = _ from app6 (by decide) (cmS_2 (cons1 (callV1_eq (c := false) rfl (ft_at ha))) w9))]
  exact app6 (by decide) (cmS_2 (cons1 (callV1_eq (c := false) rfl hb)) h10)
end
end PM.G

namespace PM.G
open PySem PySem.Spec L2 PM
def dueL : List D := [.str "fine", .str "saying", .str "fine", .str "saying", .str "fine", .str "fine", .str "saying", .str "saying", .str "saying", .str "saying"]
def tff : D := .lst [.bl true, .bl false, .bl false]
section
variable {m : Mu} {a n s2 s3 : D}
abbrev eM (m : Mu) (a n s2 s3 : D) (x y : Sl) : En := [.io m, .val a, .val s2, .val s3, .val (wdF a n), .val (fullH a), .own (.lst dueL), x, y, .val (deepF a), .val n, .non]
theorem cons2' {m1 m2 : ME} {ρ : En} {x y : D} {p q : Bool} (h1 : m1 ρ = .ok (x, p) ρ) (h2 : m2 ρ = .ok (y, q) ρ) : mCons m1 (mCons m2 mNil) ρ = .ok [x, y] ρ := by
  simp only [mCons, mNil, h1, h2, Rs.bind]
theorem ls16_ok : ls16 (eM m a n s2 s3 .non .non) = .ok .nx (eM m a n s2 s3 (.val (.lst (dueL.take 5))) .non) := by kernel_rfl
theorem cons3 {m1 m2 m3 : ME} {ρ : En} {x y z : D} {p q r : Bool} (h1 : m1 ρ = .ok (x, p) ρ) (h2 : m2 ρ = .ok (y, q) ρ) (h3 : m3 ρ = .ok (z, r) ρ) : mCons m1 (mCons m2 (mCons m3 mNil)) ρ = .ok [x, y, z] ρ := by
  simp only [mCons, mNil, h1, h2, h3, Rs.bind]
theorem ls17_ok (ha : a ∈ atoms) {x : Sl} : ls17 (eM m a n s2 s3 x .non) = .ok .nx (eM m a n s2 s3 x (.val tff)) := by
  have h1 := callV1_eq (f := fn_l_is_small) (m1 := mVar 5) (ρ := eM m a n s2 s3 x .non) (c := false) rfl (map_at small1 a ha)
  have h2 := callV1_eq (f := fn_l_is_small) (m1 := mTup (mCons (mC (.str "not")) (mCons (mVar 5) mNil))) (ρ := eM m a n s2 s3 x .non) (c := false) rfl (map_at small2 a ha)
  have h3 := callV1_eq (f := fn_l_is_small) (m1 := mTup (mCons (mC (.str "and")) (mCons (mVar 5) (mCons (mVar 1) mNil)))) (ρ := eM m a n s2 s3 x .non) (c := false) rfl (map_at small3 a ha)
  exact asg_eq (i := 8) (ρ := eM m a n s2 s3 x .non) (ρ1 := eM m a n s2 s3 x .non) (lst_eq (cons3 h1 h2 h3) (by simp)) rfl
theorem ls18_ok : ls18 (eM m a n s2 s3 (.val (.lst (dueL.take 5))) (.val tff)) = .ok .nx (eM m a n s2 s3 (.val (.lst dueL)) (.val tff)) := by kernel_rfl
theorem ls19_ok (ha : a ∈ atoms) : ∃ ρ, ls19 (eM m a n s2 s3 (.val (.lst dueL)) (.val tff)) = .ok (.rt (.bl true, false)) ρ ∧ ρ[0]? = some (.io m) := by
  have e1 : mOp2 eqD (mGive 6) (mVar 7) (eM m a n s2 s3 (.val (.lst dueL)) (.val tff)) = .ok (.bl true, false) [.io m, .val a, .val s2, .val s3, .val (wdF a n), .val (fullH a), .val (.lst dueL), .val (.lst dueL), .val tff, .val (deepF a), .val n, .non] := by kernel_rfl
  have e2 : mOp2 eqD (mLst (mCons (mCallV (fn_l_size_of 12) (mCons (mVar 5) mNil)) (mCons (mVar 8) mNil))) (mLst (mCons (mC (.int 40)) (mCons (mLst (mCons (mC (.bl true)) (mCons (mC (.bl false)) (mCons (mC (.bl false)) mNil)))) mNil))) [.io m, .val a, .val s2, .val s3, .val (wdF a n), .val (fullH a), .val (.lst dueL), .val (.lst dueL), .val tff, .val (deepF a), .val n, .non] = .ok (.bl true, false) [.io m, .val a, .val s2, .val s3, .val (wdF a n), .val (fullH a), .val (.lst dueL), .val (.lst dueL), .val tff, .val (deepF a), .val n, .non] := by
    refine op2_eq (x := .lst [.int 40, tff]) (p := true) (y := .lst [.int 40, tff]) (q := true) (lst_eq ?_ (by simp)) rfl (by kernel_rfl)
    have z := callV1_eq (f := fn_l_size_of 12) (m1 := mVar 5) (ρ := [.io m, .val a, .val s2, .val s3, .val (wdF a n), .val (fullH a), .val (.lst dueL), .val (.lst dueL), .val tff, .val (deepF a), .val n, .non]) (c := false) rfl (map_at size40 a ha)
    exact cons2' z rfl
  exact ⟨_, ret_eq (andV_t e1 e2), rfl⟩
end
end PM.G

namespace PM.G
open PySem PySem.Spec L2 PM
abbrev eP (m : Mu) (a : D) (x : Sl) (f : D) : En := [.io m, .val a, .val (.int 6), x, .non, .non, .non, .non, .non, .val (deepF a), .val f, .non]
def bodyP : MS := mAsg 10 (mTup (mCons (mCallD fn_l_pick 0 (mCons (mLst (mCons (mC (.str "some")) (mCons (mC (.str "each")) mNil))) mNil)) (mCons (mVar 3) (mCons (mVar 10) mNil))))
theorem p1_eq : p_l_limits_right_1 = mFor (mIt itS (mC (.str "xAyB"))) (gN 3) bodyP := rfl
theorem cons3' {m1 m2 m3 : ME} {ρ ρ1 : En} {x y z : D} {p q r : Bool} (h1 : m1 ρ = .ok (x, p) ρ1) (h2 : m2 ρ1 = .ok (y, q) ρ1) (h3 : m3 ρ1 = .ok (z, r) ρ1) : mCons m1 (mCons m2 (mCons m3 mNil)) ρ = .ok [x, y, z] ρ1 := by
  simp only [mCons, mNil, h1, h2, h3, Rs.bind]
theorem turnP (m : Mu) (k : Nat) (a x f : D) (hk : k ≤ 900000) (hd : DiceK k m) : ∃ q m', q ∈ qs ∧ DiceK (k + 1) m' ∧ bodyP (eP m a (.val x) f) = .ok .nx (eP m' a (.val x) (chF q x f)) := by
  obtain ⟨q, m', hq, e, dk⟩ := pick_ok m k qs (by decide +kernel) (by decide +kernel) (by omega) hd
  refine ⟨q, m', hq, dk, ?_⟩
  have c := callD1_eq (f := fn_l_pick) (m1 := mLst (mCons (mC (.str "some")) (mCons (mC (.str "each")) mNil))) (ρ := eP m a (.val x) f) (c := true) (x := .lst qs) rfl (by kernel_rfl) e
  have t : mTup (mCons (mCallD fn_l_pick 0 (mCons (mLst (mCons (mC (.str "some")) (mCons (mC (.str "each")) mNil))) mNil)) (mCons (mVar 3) (mCons (mVar 10) mNil))) (eP m a (.val x) f) = .ok (chF q x f, false) (eP m' a (.val x) f) := by
    unfold mTup
    have c3 := cons3' (m2 := mVar 3) (m3 := mVar 10) (ρ1 := eP m' a (.val x) f) (y := x) (z := f) (q := false) (r := false) c rfl rfl
    rw [c3]
    show (if 3 ≤ sizeLine then (.ok (.tup [q, x, f], false) (eP m' a (.val x) f) : Rs Vl) else .stuck) = _
    rw [if_pos (by rw [big]; omega)]
    rfl
  exact asg_eq (i := 10) (ρ := eP m a (.val x) f) (ρ1 := eP m' a (.val x) f) t rfl
theorem sg4 : itS (.str "xAyB") = some [.str "x", .str "A", .str "y", .str "B"] := by kernel_rfl
theorem p1_ok (m : Mu) (k : Nat) (a : D) (hk : k ≤ 800000) (hd : DiceK k m) : ∃ n m', n ∈ nests a ∧ DiceK (k + 4) m' ∧ p_l_limits_right_1 (eP m a .non a) = .ok .nx (eP m' a (.val (.str "B")) n) := by
  obtain ⟨q1, m1, h1, d1, e1⟩ := turnP m k a (.str "x") a (by omega) hd
  obtain ⟨q2, m2, h2, d2, e2⟩ := turnP m1 (k + 1) a (.str "A") (chF q1 (.str "x") a) (by omega) d1
  obtain ⟨q3, m3, h3, d3, e3⟩ := turnP m2 (k + 2) a (.str "y") (chF q2 (.str "A") (chF q1 (.str "x") a)) (by omega) d2
  obtain ⟨q4, m4, h4, d4, e4⟩ := turnP m3 (k + 3) a (.str "B") (chF q3 (.str "y") (chF q2 (.str "A") (chF q1 (.str "x") a))) (by omega) d3
  refine ⟨chF q4 (.str "B") (chF q3 (.str "y") (chF q2 (.str "A") (chF q1 (.str "x") a))), m4, ?_, d4, ?_⟩
  · unfold nests
    exact List.mem_flatMap.mpr ⟨q1, h1, List.mem_flatMap.mpr ⟨q2, h2, List.mem_flatMap.mpr ⟨q3, h3, List.mem_map.mpr ⟨q4, h4, rfl⟩⟩⟩⟩
  · rw [p1_eq]
    unfold mFor mIt mC
    simp only [Rs.bind, sg4, lift]
    exact (loop_nx (ρ1 := eP m a (.val (.str "x")) a) rfl e1).trans ((loop_nx (ρ1 := eP m1 a (.val (.str "A")) _) rfl e2).trans ((loop_nx (ρ1 := eP m2 a (.val (.str "y")) _) rfl e3).trans ((loop_nx (ρ1 := eP m3 a (.val (.str "B")) _) rfl e4).trans rfl)))
end PM.G

namespace PM.G
open PySem PySem.Spec L2 PM
theorem ft_of {d : D} {z : Str} (h : ftD d = .str z) : fn_l_form_text 12 none [d] = .ret (ftD d, false) none := by
  rw [h]
  unfold ftD at h
  split at h
  · rename_i y q
    cases h
    exact q
  · cases h
theorem big_at {a : D} (ha : a ∈ atoms) : fn_l_form_text 12 none [binF "and" (fullH a) a] = .ret (ftD (binF "and" (fullH a) a), false) none ∧ txW (ftD (binF "and" (fullH a) a)) = 2 := by
  rcases List.mem_cons.mp ha with rfl | ha
  · exact ⟨ft_of ft0, w10_0⟩
  rcases List.mem_cons.mp ha with rfl | ha
  · exact ⟨ft_of ft1, w10_1⟩
  rcases List.mem_cons.mp ha with rfl | ha
  · exact ⟨ft_of ft2, w10_2⟩
  rcases List.mem_cons.mp ha with rfl | ha
  · exact ⟨ft_of ft3, w10_3⟩
  · cases ha
theorem one_at {f : D → Nat} {c : Nat} (h : atoms.map f = [c, c, c, c]) {a : D} (ha : a ∈ atoms) : f a = c := map_at (g := fun _ => c) (h.trans rfl) a ha
theorem two_at {f : D → D → Nat} {c : Nat} (h : atoms.map (fun a => (nests a).map (f a)) = atoms.map (fun a => (nests a).map fun _ => c)) {a n : D} (ha : a ∈ atoms) (hn : n ∈ nests a) : f a n = c := map_at (map_at h a ha) n hn
theorem limits_ok (m : Mu) (k : Nat) (hk : k ≤ 700000) (hd : DiceK k m) : ∃ m', fn_l_limits_right (some m) [] = .ret (.bl true, false) (some m') ∧ DiceK (k + 5) m' := by
  obtain ⟨a, m1, ha, d1, e0⟩ := draw (m := m) (k := k) (i := 0) (xs := atoms) (L := mLst (mCons (mTup (mCons (mC (.str "tied")) (mCons (mC (.str "x")) (mCons (mC (.str "y")) mNil)))) (mCons (mTup (mCons (mC (.str "same")) (mCons (mC (.str "left")) (mCons (mC (.str "right")) mNil)))) (mCons (mTup (mCons (mC (.str "in")) (mCons (mC (.str "z")) (mCons (mC (.str "Z")) mNil)))) (mCons (mTup (mCons (mC (.str "tied")) (mCons (mC (.str "left")) (mCons (mC (.str "a")) mNil)))) mNil))))) (tl := [.non, .non, .non, .non, .non, .non, .non, .non, .non, .non, .non]) (fun m => by kernel_rfl) (by decide +kernel) (by decide +kernel) (by omega) hd rfl
  obtain ⟨n, m2, hn, d2, e3⟩ := p1_ok m1 (k + 1) a (by omega) d1
  obtain ⟨hb, h10⟩ := big_at ha
  obtain ⟨ρ, e19, hρ⟩ := ls19_ok (m := m2) (n := n) (s2 := .int 6) (s3 := .str "B") ha
  refine ⟨m2, ?_, d2⟩
  have sa : ∀ (a b c : MS), mSeq (mSeq a b) c = mSeq a (mSeq b c) := fun a b c => funext fun ρ => seqA a b c ρ
  have t := tells (m := m2) (s2 := .int 6) (s3 := .str "B") ha hn hb h10 (one_at w1 ha) (one_at w2 ha) (two_at (f := fun _ n => sayW n) w3 ha hn) (two_at (f := fun _ n => sayW (chF (.str "some") (.str "q") n)) w4 ha hn) (two_at (f := fun a n => sayW (binF "and" n (chF (.str "some") (.str "x") a))) w5 ha hn) (one_at w6 ha) (one_at w7 ha) (one_at w8 ha) (one_at w9 ha)
  have z : mSeq (mSeq ls6 (mSeq ls7 (mSeq ls8 (mSeq ls9 (mSeq ls10 (mSeq ls11 (mSeq ls12 (mSeq ls13 (mSeq ls14 ls15))))))))) (mSeq ls16 (mSeq ls17 (mSeq ls18 ls19))) (eN m2 a n (.int 6) (.str "B")) = .ok (.rt (.bl true, false)) ρ := by
    exact (seq_nx t).trans ((seq_nx (a := ls16) (ls16_ok (m := m2) (a := a) (n := n) (s2 := .int 6) (s3 := .str "B"))).trans ((seq_nx (ls17_ok ha)).trans ((seq_nx ls18_ok).trans e19)))
  have y : mSeq ls0 (mSeq (mSeq ls1 ls2) (mSeq ls3 (mSeq ls4 (mSeq ls5 (mSeq (mSeq ls6 (mSeq ls7 (mSeq ls8 (mSeq ls9 (mSeq ls10 (mSeq ls11 (mSeq ls12 (mSeq ls13 (mSeq ls14 ls15))))))))) (mSeq ls16 (mSeq ls17 (mSeq ls18 ls19)))))))) [.io m, .non, .non, .non, .non, .non, .non, .non, .non, .non, .non, .non] = .ok (.rt (.bl true, false)) ρ := by
    exact (seq_nx (a := ls0) e0).trans ((seq_nx (a := mSeq ls1 ls2) (lsPre m1 a)).trans ((seq_nx (a := ls3) e3).trans ((seq_nx (a := ls4) (ls4_ok m2 a n (.int 6) (.str "B") (deepF a))).trans ((seq_nx (a := ls5) (ls5_ok m2 a n (.int 6) (.str "B") (wdF a n) (deepF a))).trans z))))
  simp only [sa] at y
  exact ret_io2 rfl (by rw [limits_eq]; exact y) hρ
end PM.G

namespace PM.G
open PySem PySem.Spec L2 PM
abbrev fW (z : D) (s1 s3 : Sl) : En := [.val z, s1, .non, s3]
theorem c0_eq {f : Fn} {z : D} {s1 : Sl} {m m2 : Mu} {y : Vl} (h : f (some m) [] = .ret y (some m2)) : mCallD f 3 mNil (fW z s1 (.own m)) = .ok y (fW z s1 (.own m2)) := by
  have mu : muOf 3 (fW z s1 (.own m)) = some (.own m, m) := rfl
  unfold mCallD mNil
  simp only [mu, Rs.bind, h]
  rfl
def stD : MS := mAsgO 3 (mCallV fn_l_dice (mCons (mVar 0) (mCons (mVar 1) mNil)))
def stT : MS := mIfS (mOr (mNot (mTest (mCallD fn_l_limits_right 3 mNil))) (mNot (mTest (mCallD fn_l_values_right 3 mNil)))) (mRet (mC (.bl false))) mNext
theorem turn_ok {z : D} {s1 : Sl} (m : Mu) (hd : DiceK 0 m) : ∃ m', stT (fW z s1 (.own m)) = .ok .nx (fW z s1 (.own m')) := by
  obtain ⟨m1, e1, d1⟩ := limits_ok m 0 (by omega) hd
  obtain ⟨m2, e2, _⟩ := values_ok m1 5 (by omega) d1
  exact ⟨m2, ifs_no (or_ff (not_eq (tst_eq (c0_eq e1))) (not_eq (tst_eq (c0_eq e2))))⟩
theorem outer (ns : List Int) : ∀ (n s : Nat) (s1 s3 : Sl), s + n ≤ 60 → VN s1 → notIo (some s3) = true → ∃ s1' s3', mLoop (gN 1) (mSeq stD stT) ((rgL 0 (s + n)).drop s) (fW (.scr (ns.map D.int)) s1 s3) = .ok .nx (fW (.scr (ns.map D.int)) s1' s3')
  | 0, s, s1, s3, _, _, _ => ⟨s1, s3, by
    rw [List.drop_eq_nil_of_le (by rw [rgL_length]; omega)]
    rfl⟩
  | n + 1, s, s1, s3, h, h1, h3 => by
    have e0 := rgL_drop 0 (s + (n + 1)) s (by omega)
    obtain ⟨m, ed, dk⟩ := dice_ok ns s (by omega)
    have ez : ((0 : Int) + (s : Nat)) = (s : Nat) := by omega
    rw [ez] at e0
    have g := gN_set 1 (.int (s : Nat)) (fW (.scr (ns.map D.int)) s1 s3) h1.io
    have b1 : stD (fW (.scr (ns.map D.int)) (.val (.int (s : Nat))) s3) = .ok .nx (fW (.scr (ns.map D.int)) (.val (.int (s : Nat))) (.own (.lst m))) :=
      asgO_eq (i := 3) (ρ1 := fW (.scr (ns.map D.int)) (.val (.int (s : Nat))) s3) (callV2_eq (m1 := mVar 0) (m2 := mVar 1) (c := false) (c' := false) rfl rfl ed) h3
    obtain ⟨m', e2⟩ := turn_ok (z := .scr (ns.map D.int)) (s1 := .val (.int (s : Nat))) (.lst m) dk
    obtain ⟨t1, t3, e3⟩ := outer ns n (s + 1) (.val (.int (s : Nat))) (.own m') (by omega) True.intro rfl
    refine ⟨t1, t3, ?_⟩
    rw [e0]
    refine (loop_nx g ((seq_nx b1).trans e2)).trans ?_
    have ee : s + (n + 1) = s + 1 + n := by omega
    rw [ee]
    exact e3
theorem rng_ok (ns : List Int) : ∃ n : Nat, n ≤ 3 ∧ ∀ ρ : En, mVar 0 ρ = .ok (.scr (ns.map D.int), false) ρ → (mItA rng1 (mCons (mCall (two1 maxD) (mCons (mC (.int 1)) (mCons (mCall (two1 minD) (mCons (mC (.int 2)) (mCons (mCall (one1 lenD) (mCons (mVar 0) mNil)) mNil))) mNil))) mNil)) ρ = .ok (rgL 0 n) ρ := by
  generalize hj : (if (((ns.map D.int).length : Nat) : Int) < 2 then (((ns.map D.int).length : Nat) : Int) else 2) = j
  generalize hi : (if j > 1 then j else 1) = i
  have b : 1 ≤ i ∧ i ≤ 3 := by
    rw [← hi, ← hj]
    split <;> split <;> omega
  have e1 := minD_int 2 (((ns.map D.int).length : Nat) : Int)
  rw [hj] at e1
  have e2 := maxD_int 1 j
  rw [hi] at e2
  have e3 : rng1 [.int i] = some (rgL 0 i.toNat) := by
    show (if -(2 ^ 62) ≤ i ∧ i < 2 ^ 62 then some (rgL 0 i.toNat) else none) = _
    rw [if_pos ⟨by omega, by omega⟩]
  refine ⟨i.toNat, by omega, fun ρ h0 => ?_⟩
  have l0 := lenSc (ns.map D.int)
  generalize D.scr (ns.map D.int) = Z at *
  generalize (((ns.map D.int).length : Nat) : Int) = L at *
  simp only [mItA, mCall, mCons, mNil, mC, h0, l0, e1, e2, e3, Rs.bind, lift, one1, two1, dI]
theorem loop_ok (ns : List Int) : ∃ s1 s3, p_lawX_0 (fW (.scr (ns.map D.int)) .non .non) = .ok .nx (fW (.scr (ns.map D.int)) s1 s3) := by
  obtain ⟨n, hn, er⟩ := rng_ok ns
  obtain ⟨s1, s3, el⟩ := outer ns n 0 .non .non (by omega) True.intro rfl
  refine ⟨s1, s3, ?_⟩
  unfold p_lawX_0 mFor
  rw [er _ rfl]
  rw [Nat.zero_add] at el
  exact el
theorem arg0 (ρ : En) : (mCons (mOp2 addD (mOp2 mulS (mC (.str "not ")) (mC (.int 200))) (mC (.str "x tied y"))) mNil) ρ = .ok [.str (repS "not " 200 ++ "x tied y")] ρ := by kernel_rfl
theorem arg1 (ρ : En) : (mCons (mOp2 addD (mOp2 mulS (mC (.str "not ")) (mC (.int 197))) (mC (.str "x tied y"))) mNil) ρ = .ok [.str (repS "not " 197 ++ "x tied y")] ρ := by kernel_rfl
theorem arg2 (ρ : En) : (mCons (mOp2 addD (mOp2 mulS (mC (.str "no ")) (mC (.int 201))) (mC (.str "x"))) mNil) ρ = .ok [.str (repS "no " 201 ++ "x")] ρ := by kernel_rfl
def lt1 : MS := (mAsgO 2 (mLst (mCons (mToldX excL tc_l_word (some "fine") (mCmX 0 fn_z_Saying_of_text (mCons (mOp2 addD (mOp2 mulS (mC (.str "not ")) (mC (.int 200))) (mC (.str "x tied y"))) mNil))) mNil)))
def lt2 : MS := (mExpr (mAppend 2 (mCons (mToldX excL tc_l_word (some "fine") (mCmX 0 fn_z_Saying_of_text (mCons (mOp2 addD (mOp2 mulS (mC (.str "not ")) (mC (.int 197))) (mC (.str "x tied y"))) mNil))) mNil)))
def lt3 : MS := (mExpr (mAppend 2 (mCons (mToldX excL tc_l_word (some "fine") (mCmX 0 fn_z_Saying_of_text (mCons (mOp2 addD (mOp2 mulS (mC (.str "no ")) (mC (.int 201))) (mC (.str "x"))) mNil))) mNil)))
def lt4 : MS := (mRet (mOp2 eqD (mOp2 addD (mGive 2) (mLst (mCons (mC (.int 40)) (mCons (mC (.int 8)) (mCons (mC (.int 4)) (mCons (mC (.int 200)) (mCons (mC (.int 200000)) mNil))))))) (mLst (mCons (mC (.str "parse 200")) (mCons (mC (.str "saying")) (mCons (mC (.str "parse 200")) (mCons (mC (.int 40)) (mCons (mC (.int 8)) (mCons (mC (.int 4)) (mCons (mC (.int 200)) (mCons (mC (.int 200000)) mNil)))))))))))
theorem law_eq : m_lawX = mSeq p_lawX_0 (mSeq lt1 (mSeq lt2 (mSeq lt3 lt4))) := rfl
theorem lt4_ok (z : D) (s1 s3 : Sl) : ∃ ρ, lt4 [.val z, s1, .own (.lst [.str "parse 200", .str "saying", .str "parse 200"]), s3] = .ok (.rt (.bl true, false)) ρ := ⟨[.val z, s1, .val (.lst [.str "parse 200", .str "saying", .str "parse 200"]), s3], by kernel_rfl⟩
theorem law_true (ns : List Int) (hl : ns.length ≤ 63) : fn_lawX none [.scr (ns.map D.int)] = .ret (.bl true, false) none := by
  obtain ⟨s1, s3, e0⟩ := loop_ok ns
  obtain ⟨ρ, e4⟩ := lt4_ok (.scr (ns.map D.int)) s1 s3
  refine nx_ret rfl (ρ := ρ) ?_
  show m_lawX (fW (.scr (ns.map D.int)) .non .non) = _
  rw [law_eq]
  have e1 : lt1 (fW (.scr (ns.map D.int)) s1 s3) = .ok .nx [.val (.scr (ns.map D.int)), s1, .own (.lst [.str "parse 200"]), s3] :=
    asgO_eq (i := 2) (ρ1 := fW (.scr (ns.map D.int)) s1 s3) (lst_eq (cons1 (cmS_3 (arg0 _) x200)) (by simp)) rfl
  have e2 : lt2 [.val (.scr (ns.map D.int)), s1, .own (.lst [.str "parse 200"]), s3] = .ok .nx [.val (.scr (ns.map D.int)), s1, .own (.lst [.str "parse 200", .str "saying"]), s3] :=
    app_eq (i := 2) (l := [.str "parse 200"]) (y := .str "saying") (z := .own (.lst [.str "parse 200"])) (ρ1 := [.val (.scr (ns.map D.int)), s1, .own (.lst [.str "parse 200"]), s3]) rfl (cons1 (cmS_2 (arg1 _) x197)) rfl (by rw [big]; decide)
  have e3 : lt3 [.val (.scr (ns.map D.int)), s1, .own (.lst [.str "parse 200", .str "saying"]), s3] = .ok .nx [.val (.scr (ns.map D.int)), s1, .own (.lst [.str "parse 200", .str "saying", .str "parse 200"]), s3] :=
    app_eq (i := 2) (l := [.str "parse 200", .str "saying"]) (y := .str "parse 200") (z := .own (.lst [.str "parse 200", .str "saying"])) (ρ1 := [.val (.scr (ns.map D.int)), s1, .own (.lst [.str "parse 200", .str "saying"]), s3]) rfl (cons1 (cmS_3 (arg2 _) x201)) rfl (by rw [big]; decide)
  exact (seq_nx e0).trans ((seq_nx e1).trans ((seq_nx e2).trans ((seq_nx e3).trans e4)))
end PM.G

open PySem PySem.W PySem.Calls PyProof.Rows
set_option maxHeartbeats 0 in
theorem PySem.Challenge.cw_seamsayings_k21_limits_of_sayings_holds : PySem.Challenge.rw_seamsayings_k21_limits_of_sayings.Holds := by
  w_on; o_law
  refine HandSHeadRun.head_any (r := OpenLaw.row PySem.Challenge.rw_seamsayings_k21_limits_of_sayings) (q := view (OpenLaw.row PySem.Challenge.rw_seamsayings_k21_limits_of_sayings).prog [44]) (H := PM.G.hk) (ob := PM.G.ob) (M := 8000) (loose := PM.G.names) (d := HandSHeadRun.topDef (OpenLaw.row PySem.Challenge.rw_seamsayings_k21_limits_of_sayings).prog 44) (kwd := []) PM.G.ob_eq (by kernel_rfl) (fun s => by kernel_rfl) PM.G.run (by kernel_rfl) (by kernel_rfl) (by kernel_rfl) (by rfl) (by first | assumption | decide +kernel) (by decide +kernel) ⟨rfl, rfl, rfl, rfl, rfl, by decide +kernel⟩ ?hw ?hc
  case hw => w_witness2
  case hc =>
    refine PM.walk_GT (l := PySem.Challenge.rw_seamsayings_k21_limits_of_sayings) (n := 63) (k := 226) (x := "_law_script") (Z := L2.CX0) rfl (by decide) (by kernel_rfl) ⟨rfl, by decide, by decide⟩ rfl ?F (fun _ _ _ _ z => z)
    intro w mg fa h Y G hmg0
    obtain ⟨K, KX, c, t, tn⟩ := Y
    have hmg : mg ("law" : PySem.Str) = some (.ref fa) := by
      have e : (HandSHeadRun.topDef (OpenLaw.row PySem.Challenge.rw_seamsayings_k21_limits_of_sayings).prog 44).name = ("law" : PySem.Str) := by kernel_rfl
      rw [← e]
      exact hmg0
    obtain ⟨a, fd, hm, hb, F⟩ := PM.G.top_law (TT := PM.tabWM PM.G.lamN K) (PM.G.tx KX G c.m.1)
    have ea := hm.symm.trans hmg
    cases ea
    obtain ⟨c1, c2, c3⟩ := PM.tabCsM_ok t
    exact ⟨K, fd, PM.spT ((PM.G.wd K w).wT (PM.tabWM PM.G.lamN K)) 1 PM.G.fn_lawX, PM.tabCsM PM.G.lamN K, KX, c1, c2, c3, hb, fun H a ns hl hO hS => PM.law_spT (w := (PM.G.wd K w).wT (PM.tabWM PM.G.lamN K)) (PM.tabWM_in PM.G.lamN K) hO hS (PM.G.law_true ns hl), fun b0 _ _ tb => F _ b0 (PM.G.txp c) (PM.tabXM_of t tn tb)⟩

