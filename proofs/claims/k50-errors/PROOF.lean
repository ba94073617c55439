import PyProof.Rows.All
import Wide.All
import OpenK.AllK
import Wide.FinOn
import HandS.ForMost
import HandS.Exc
import HandS.ExcOwn
import HandS.WordsExc
import HandS.Slots
import HandS.ExcValue
import KE.KeyNested
import KE.KDictKeyed
import HandS.Set
import HandS.Strs
import HandS.TupSets
import HandS.SetTxt0
import HandS.Lambda
import HandS.Star
import HandS.TupAny
import HandS.Wide
import HandS.IsInst
import HandS.FStr
import HandS.RaiseMore
import HandS.Walk
import HandS.Style
import HandS.SlotsOwn
import HandS.ClsMeth
import HandS.Iter
import KE.GoesEnum
import HandS.Ends
import HandS.HeadHook3
import HandS.Head2
import HandS.Deep
import HandS.TupMul
import HandS.Dict
import HandS.OwnEq
import KE.KExcSuper
import HandS.ExcInit
import HandS.TryMany
import HandS.ExcField
import PyProof.ListStr
import PyProof.StrOps2
import KE.KCallOwn
import OpenK.KMeth
import KE.KOwnIter
import HandS.IterNext
import PyProof.WalksMore
import HandS.More
import HandS.Text
import HandS.ListItems
import HandS.TryOnly
import HandS.Conv
import KE.KExcIs
import HandS.ExcIs
import HandS.ExcCtx
import HandS.HotCalls
import HandS.EndTab
import KE.KNestM
import PySem.Challenge.RW_seamsayings_k50_errors_of_tables
import HandS.DictComp
import HandS.SortInts
import HandS.SetFor
import HandS.TupLen
import HandS.Zip
import HandS.Sort
import PyProof.ListRange
import KE.KDictList
import KE.KDictDisplayH
import KE.KDictZip
import HandS.TupLe
import HandS.Finally
import KE.SortData
import HandS.SortKw
import KE.SortKeyHeap
import HandS.DictEq
import KE.DataMinMax
import KE.GoesMore
import KE.GoesZip
import PyProof.CollectStr
import HandS.DictTup
import HandS.DeepEq
import HandS.NoneIn
import KE.KDictPairs
import HandS.HeadEnd
set_option Elab.async false
set_option linter.all false
set_option maxRecDepth 100000
set_option maxHeartbeats 4000000
namespace PM
open PySem L2

/-! ### data -/
inductive D where
  | non | bl (b : Bool) | int (i : Int) | str (x : Str) | tup (xs : List D) | lst (xs : List D) | dct (ks vs : List D) | obj (c : Nat) (fs : List D) | scr (xs : List D) | cls (c : Nat) | exn (c : Nat) (ns : List Str) (ds : List D) | dkt (ks vs : List D) | set (xs : List Str) | dkf (ks vs : List D)

/-- what is fixed around a body: the written part, the classes by number, the tables of code objects that may grow -/
structure Wd where
  K : PySem.W.Frag
  cl : Nat → Addr
  wo : World
  T : List (Addr × Str)

def WrT (K : PySem.W.Frag) (a : Addr) (xs : List V) : Prop :=
  ∃ (o : Obj) (its : Array Value) (n : Nat), K.lookup a = some o ∧ o.cls = .type "tuple" ∧ o.data = .seq its n ∧ its.size ≤ sizeLine ∧ Vals xs its.toList
def WrL (K : PySem.W.Frag) (a : Addr) (xs : List V) : Prop :=
  ∃ (o : Obj) (its : Array Value) (n : Nat), K.lookup a = some o ∧ o.cls = .type "list" ∧ o.dict = none ∧ o.data = .seq its n ∧ its.size ≤ sizeLine ∧ Vals xs its.toList

abbrev Av := Addr → Prop

/-- a tracked thing that is not guarded -/
def At (O : Av) (H : Hp) (a : Addr) (u : HO) : Prop := ¬ O a ∧ H a = some u

def keyD : D → Option Key
  | .int i => some (.inl i)
  | .str x => some (.inr x)
  | _ => none
def keysD : List D → List Key → Prop
  | [], ks => ks = []
  | d :: ds, ks => ∃ k ks', ks = k :: ks' ∧ keyD d = some k ∧ keysD ds ks'

/-! keys that are tuples -/
mutual
def nkD : D → Option NestedKey
  | .non => some .none
  | .int i => some (.num i)
  | .str x => some (.text x)
  | .tup ds => (nkL ds).map .tup
  | _ => none
def nkL : List D → Option (List NestedKey)
  | [] => some []
  | d :: ds => (nkD d).bind fun k => (nkL ds).map (k :: ·)
end
/-- a dict with tuples as keys: the keys, where they stand, the values -/
def DkP (wo : World) (a : Addr) (xs : List (NestedKey × Addr × V)) (h : Heap) : Prop := xs.length ≤ sizeLine ∧ (a == sysModules) = false ∧ (∀ x ∈ xs, x.1.depth ≤ 8) ∧ ∃ ys : List (NestedKey × Addr × Value),
  Paired (fun (p : NestedKey × Addr × V) (q : NestedKey × Addr × Value) => p.1 = q.1 ∧ p.2.1 = q.2.1 ∧ RelV p.2.2 q.2.2) xs ys ∧
  ∃ o es ep, h.get? a = some o ∧ o.ExactDict ∧ o.data = .dict es ep ∧ es.toList = ys.map (fun x => (⟨x.1.hash wo, .ref x.2.1, x.2.2⟩ : DictEntry)) ∧ (ys.map (·.1)).Nodup
def DkO (wo : World) (a : Addr) (xs : List (NestedKey × Addr × V)) : HO := .ext (DkP wo a xs)
/-- .. that will never change: it is the object o -/
def DkX (wo : World) (a : Addr) (o : Obj) (xs : List (NestedKey × Addr × V)) : HO := .ext fun h => h.get? a = some o ∧ DkP wo a xs h
/-! sets of texts -/
def keyS (e : Int × Value) : Str := match e.2 with
  | .str k _ => k
  | _ => Str.empty
def GoodS (w : World) (e : Int × Value) : Prop := ∃ k tk, e.2 = Value.str k tk ∧ e.1 = PySem.hashStr w k
/-- the set of the texts l at a -/
structure SetS (w : World) (h : Heap) (a : Addr) (l : List Str) : Prop where
  ex : ∃ o es ep t, h.get? a = some o ∧ o.ExactSet ∧ o.data = .set es ep t ∧ (∀ e ∈ es.toList, GoodS w e) ∧ (es.toList.map keyS).Perm l ∧ es.size < scanBound ∧ t.fits es.size = true ∧ Ris t.place.toList ∧ (w.params.followText "set-order" = true ∨ t.led = true)
  nd : l.Nodup
def SetSO (w : World) (a : Addr) (l : List Str) : HO := .ext fun h => SetS w h a l
/-- an exception with its dict at d -/
def ExD (cls : Value) (d a : Addr) : HO := .ext fun h => ∃ (oe : Obj) (vs : Array Value), h.get? a = some oe ∧ Zc cls (some d) oe ∧ oe.data = .fields vs
mutual
def Rep (w : Wd) (O : Av) (H : Hp) : D → V → Prop
  | .non, v => v = .non
  | .bl b, v => v = .bl b
  | .int i, v => v = .int i
  | .str x, v => v = .str x
  | .cls c, v => v = .ref (w.cl c)
  | .tup ds, v => ∃ a vs, v = .ref a ∧ (At O H a (.tup vs) ∨ WrT w.K a vs) ∧ RepL w O H ds vs
  | .lst ds, v => ∃ a vs, v = .ref a ∧ At O H a (.lst vs) ∧ RepL w O H ds vs
  | .dct ks ds, v => ∃ a kvs, v = .ref a ∧ (At O H a (.dK kvs) ∨ ∃ o, At O H a (.frz o (.dK kvs))) ∧ keysD ks (kvs.map (·.1)) ∧ RepL w O H ds (kvs.map (·.2))
  | .obj c fs, v => ∃ a dx vs, v = .ref a ∧ dx ≠ a ∧ ¬ O a ∧ ¬ O dx ∧ H a = some (SlX.SlO a (w.cl c) dx (vs.map some)) ∧ H dx = some (.xd []) ∧ RepL w O H fs vs
  | .scr ds, v => ∃ a vs, v = .ref a ∧ ((∃ o, At O H a (.frz o (.lst vs))) ∨ WrL w.K a vs) ∧ RepL w O H ds vs
  | .exn c ns ds, v => ∃ a vs, v = .ref a ∧ ((ns = [] ∧ At O H a (ExO (.ref (w.cl c)) a)) ∨ ∃ d, At O H a (ExD (.ref (w.cl c)) d a) ∧ At O H d (.xd (ns.zip vs))) ∧ RepL w O H ds vs
  | .dkt ks ds, v => ∃ a xs, v = .ref a ∧ (At O H a (DkO w.wo a xs) ∨ ∃ o, At O H a (.frz o (DkO w.wo a xs))) ∧ nkL ks = some (xs.map (·.1)) ∧ RepL w O H ks (xs.map fun x => V.ref x.2.1) ∧ RepL w O H ds (xs.map (·.2.2))
  | .set xs, v => ∃ a, v = .ref a ∧ At O H a (SetSO w.wo a xs)
  | .dkf ks ds, v => ∃ a xs o, v = .ref a ∧ At O H a (DkX w.wo a o xs) ∧ nkL ks = some (xs.map (·.1)) ∧ RepL w O H ks (xs.map fun x => V.ref x.2.1) ∧ RepL w O H ds (xs.map (·.2.2))
def RepL (w : Wd) (O : Av) (H : Hp) : List D → List V → Prop
  | [], vs => vs = []
  | d :: ds, vs => ∃ v vs', vs = v :: vs' ∧ Rep w O H d v ∧ RepL w O H ds vs'
end

/-- from one time to a later one -/
structure Step (O : Av) (H : Hp) (O' : Av) (H' : Hp) : Prop where
  sub : ∀ a, O' a → O a ∨ H a = none
  kept : ∀ a o, ¬ O a → H a = some o → H' a = some o
  dom : ∀ a, H a ≠ none → H' a ≠ none
theorem Step.refl (O : Av) (H : Hp) : Step O H O H := ⟨fun _ h => .inl h, fun _ _ _ h => h, fun _ h => h⟩
theorem Step.off {O O' : Av} {H H' : Hp} (s : Step O H O' H') {a : Addr} (h : ¬ O a) (e : H a ≠ none) : ¬ O' a := fun q => (s.sub a q).elim h e
theorem Step.trans {O O' O'' : Av} {H H' H'' : Hp} (s : Step O H O' H') (t : Step O' H' O'' H'') : Step O H O'' H'' where
  sub := fun a q => by
    rcases t.sub a q with q | q
    · exact s.sub a q
    · refine .inr ?_
      cases e : H a with
      | none => rfl
      | some o => exact absurd q (s.dom a (by rw [e]; simp))
  kept := fun a o h e => t.kept a o (s.off h (by rw [e]; simp)) (s.kept a o h e)
  dom := fun a h => t.dom a (s.dom a h)

theorem At.step {O O' : Av} {H H' : Hp} (s : Step O H O' H') {a : Addr} {u : HO} (h : At O H a u) : At O' H' a u := by
  obtain ⟨h1, h2⟩ := h
  exact ⟨s.off h1 (by rw [h2]; simp), s.kept a _ h1 h2⟩

section
variable {w : Wd} {O O' : Av} {H H' : Hp}
mutual
theorem Rep.step (s : Step O H O' H') : ∀ (d : D) (v : V), Rep w O H d v → Rep w O' H' d v
  | .non, v, h => by simpa only [Rep] using h
  | .bl _, v, h => by simpa only [Rep] using h
  | .int _, v, h => by simpa only [Rep] using h
  | .str _, v, h => by simpa only [Rep] using h
  | .cls _, v, h => by simpa only [Rep] using h
  | .tup ds, v, h => by
    simp only [Rep] at h ⊢
    obtain ⟨a, vs, e, h1, h2⟩ := h
    exact ⟨a, vs, e, h1.imp (At.step s) id, RepL.step s ds vs h2⟩
  | .lst ds, v, h => by
    simp only [Rep] at h ⊢
    obtain ⟨a, vs, e, h1, h2⟩ := h
    exact ⟨a, vs, e, At.step s h1, RepL.step s ds vs h2⟩
  | .scr ds, v, h => by
    simp only [Rep] at h ⊢
    obtain ⟨a, vs, e, h1, h2⟩ := h
    exact ⟨a, vs, e, h1.imp (fun ⟨o, q⟩ => ⟨o, At.step s q⟩) id, RepL.step s ds vs h2⟩
  | .dct ks ds, v, h => by
    simp only [Rep] at h ⊢
    obtain ⟨a, kvs, e, h1, h2, h3⟩ := h
    exact ⟨a, kvs, e, h1.imp (At.step s) (fun ⟨o, q⟩ => ⟨o, At.step s q⟩), h2, RepL.step s ds _ h3⟩
  | .obj c fs, v, h => by
    simp only [Rep] at h ⊢
    obtain ⟨a, dx, vs, e, n, o1, o2, h1, h2, h3⟩ := h
    exact ⟨a, dx, vs, e, n, s.off o1 (by rw [h1]; simp), s.off o2 (by rw [h2]; simp), s.kept _ _ o1 h1, s.kept _ _ o2 h2, RepL.step s fs vs h3⟩
  | .exn c ns ds, v, h => by
    simp only [Rep] at h ⊢
    obtain ⟨a, vs, e, h1, h2⟩ := h
    exact ⟨a, vs, e, h1.imp (fun q => ⟨q.1, At.step s q.2⟩) (fun ⟨d, q1, q2⟩ => ⟨d, At.step s q1, At.step s q2⟩), RepL.step s ds vs h2⟩
  | .dkt ks ds, v, h => by
    simp only [Rep] at h ⊢
    obtain ⟨a, xs, e, h1, h2, h3, h4⟩ := h
    exact ⟨a, xs, e, h1.imp (At.step s) (fun ⟨o, q⟩ => ⟨o, At.step s q⟩), h2, RepL.step s ks _ h3, RepL.step s ds _ h4⟩
  | .set xs, v, h => by
    simp only [Rep] at h ⊢
    obtain ⟨a, e, h1⟩ := h
    exact ⟨a, e, At.step s h1⟩
  | .dkf ks ds, v, h => by
    simp only [Rep] at h ⊢
    obtain ⟨a, xs, o, e, h1, h2, h3, h4⟩ := h
    exact ⟨a, xs, o, e, At.step s h1, h2, RepL.step s ks _ h3, RepL.step s ds _ h4⟩
theorem RepL.step (s : Step O H O' H') : ∀ (ds : List D) (vs : List V), RepL w O H ds vs → RepL w O' H' ds vs
  | [], vs, h => by simpa only [RepL] using h
  | d :: ds, vs, h => by
    simp only [RepL] at h ⊢
    obtain ⟨v, vs', e, h1, h2⟩ := h
    exact ⟨v, vs', e, Rep.step s d v h1, RepL.step s ds vs' h2⟩
end
end

/-- slots of an instance -/
def RepO (w : Wd) (O : Av) (H : Hp) : List (Option D) → List (Option V) → Prop
  | [], vs => vs = []
  | none :: ds, vs => ∃ vs', vs = none :: vs' ∧ RepO w O H ds vs'
  | some d :: ds, vs => ∃ v vs', vs = some v :: vs' ∧ Rep w O H d v ∧ RepO w O H ds vs'
theorem RepO.step {w : Wd} {O O' : Av} {H H' : Hp} (s : Step O H O' H') : ∀ (ds : List (Option D)) (vs : List (Option V)), RepO w O H ds vs → RepO w O' H' ds vs
  | [], vs, h => h
  | none :: ds, vs, ⟨vs', e, h⟩ => ⟨vs', e, RepO.step s ds vs' h⟩
  | some d :: ds, vs, ⟨v, vs', e, h1, h2⟩ => ⟨v, vs', e, Rep.step s d v h1, RepO.step s ds vs' h2⟩
/-- a list, a dict that its holder alone may change; an instance that is being made -/
inductive Mu where
  | lst (ds : List D) | dct (ks vs : List D) | ins (c : Nat) (fs : List (Option D)) | dkt (ks vs : List D)
def Mu.is : Mu → D → Prop
  | .lst ds, d => d = .lst ds
  | .dct ks vs, d => d = .dct ks vs
  | .ins _ _, _ => False
  | .dkt ks vs, d => d = .dkt ks vs
def MuAt (w : Wd) (O : Av) (H : Hp) (a : Addr) : Mu → Prop
  | .lst ds => ∃ vs, H a = some (.lst vs) ∧ RepL w O H ds vs
  | .dct ks ds => ∃ kvs, H a = some (.dK kvs) ∧ keysD ks (kvs.map (·.1)) ∧ RepL w O H ds (kvs.map (·.2))
  | .ins c fs => ∃ dx vs, H a = some (SlX.SlO a (w.cl c) dx vs) ∧ dx ≠ a ∧ ¬ O dx ∧ H dx = some (.xd []) ∧ RepO w O H fs vs
  | .dkt ks ds => ∃ xs, H a = some (DkO w.wo a xs) ∧ nkL ks = some (xs.map (·.1)) ∧ RepL w O H ks (xs.map fun x => V.ref x.2.1) ∧ RepL w O H ds (xs.map (·.2.2))
theorem MuAt.step {w : Wd} {O O' : Av} {H H' : Hp} (s : Step O H O' H') {a : Addr} (e : H' a = H a) : ∀ {m : Mu}, MuAt w O H a m → MuAt w O' H' a m
  | .lst ds, ⟨vs, h1, h2⟩ => ⟨vs, e.trans h1, RepL.step s ds vs h2⟩
  | .dct ks ds, ⟨kvs, h1, h2, h3⟩ => ⟨kvs, e.trans h1, h2, RepL.step s ds _ h3⟩
  | .ins c fs, ⟨dx, vs, h1, h2, h3, h4, h5⟩ => ⟨dx, vs, e.trans h1, h2, s.off h3 (by rw [h4]; simp), s.kept _ _ h3 h4, RepO.step s fs vs h5⟩
  | .dkt ks ds, ⟨xs, h1, h2, h3, h4⟩ => ⟨xs, e.trans h1, h2, RepL.step s ks _ h3, RepL.step s ds _ h4⟩
theorem MuAt.some {w : Wd} {O : Av} {H : Hp} {a : Addr} : ∀ {m : Mu}, MuAt w O H a m → H a ≠ none
  | .lst _, ⟨_, h, _⟩ => by rw [h]; simp
  | .dct _ _, ⟨_, h, _⟩ => by rw [h]; simp
  | .ins _ _, ⟨_, _, h, _⟩ => by rw [h]; simp
  | .dkt _ _, ⟨_, h, _⟩ => by rw [h]; simp
/-- given away: it is data from then on -/
theorem MuAt.rep {w : Wd} {O : Av} {H : Hp} {a : Addr} (n : ¬ O a) : ∀ {m : Mu} {d : D}, m.is d → MuAt w O H a m → Rep w O H d (.ref a)
  | .lst ds, d, e, ⟨vs, h1, h2⟩ => by
    cases (show d = .lst ds from e)
    simp only [Rep]
    exact ⟨a, vs, rfl, ⟨n, h1⟩, h2⟩
  | .dct ks ds, d, e, ⟨kvs, h1, h2, h3⟩ => by
    cases (show d = .dct ks ds from e)
    simp only [Rep]
    exact ⟨a, kvs, rfl, .inl ⟨n, h1⟩, h2, h3⟩
  | .ins _ _, _, e, _ => e.elim
  | .dkt ks ds, d, e, ⟨xs, h1, h2, h3, h4⟩ => by
    cases (show d = .dkt ks ds from e)
    simp only [Rep]
    exact ⟨a, xs, rfl, .inl ⟨n, h1⟩, h2, h3, h4⟩

/-! ### slots -/
inductive Sl where
  | non | val (d : D) | own (m : Mu) | io (m : Mu)
abbrev En := List Sl

/-- around a body: what is guarded from outside, what it may change there, the heap at its beginning -/
structure Fr where
  w : Wd
  B : Av
  Io : Nat → Av
  He : Hp

def SlAt (F : Fr) (O : Av) (H : Hp) (i : Nat) : Sl → Option (Option V) → Prop
  | .non, _ => True
  | .val d, o => ∃ v, o = some (some v) ∧ Rep F.w O H d v
  | .own m, o => ∃ a, o = some (some (.ref a)) ∧ O a ∧ F.He a = none ∧ MuAt F.w O H a m
  | .io m, o => ∃ a, o = some (some (.ref a)) ∧ F.Io i a ∧ MuAt F.w O H a m
def Sl.mu : Sl → Bool
  | .own _ => true
  | .io _ => true
  | _ => false
/-- the table of code objects at P, all of them named q -/
def TabZ (O : Av) (H : Hp) (P : Addr) (q : Str) : Prop := ∃ ps : Array Value, H P = some (.tbl ps) ∧ TriplesOk ps.toList ∧ ∀ (pos : Pos) (cv : Value), codeAmong pos ps.toList = some cv → ∃ c, cv = .ref c ∧ ¬ O c ∧ H c = some (LamX.CodeO c q)
theorem TabZ.step {O O' : Av} {H H' : Hp} (s : Step O H O' H') {P : Addr} {q : Str} (e : H' P = H P) (h : TabZ O H P q) : TabZ O' H' P q := by
  obtain ⟨ps, h1, h2, h3⟩ := h
  refine ⟨ps, e.trans h1, h2, fun pos cv hc => ?_⟩
  obtain ⟨c, e1, e2, e3⟩ := h3 pos cv hc
  exact ⟨c, e1, s.off e2 (by rw [e3]; simp), s.kept _ _ e2 e3⟩
theorem TabZ.some {O : Av} {H : Hp} {P : Addr} {q : Str} (h : TabZ O H P q) : ∃ ps, H P = Option.some (.tbl ps) := by
  obtain ⟨ps, h1, _⟩ := h
  exact ⟨ps, h1⟩
theorem MuAt.ntab {w : Wd} {O : Av} {H : Hp} {a : Addr} : ∀ {m : Mu}, MuAt w O H a m → ∀ ps, H a ≠ Option.some (.tbl ps)
  | .lst _, ⟨_, h, _⟩, ps => fun z => by rw [h] at z; cases z
  | .dct _ _, ⟨_, h, _⟩, ps => fun z => by rw [h] at z; cases z
  | .ins _ _, ⟨_, _, h, _⟩, ps => fun z => by rw [h] at z; cases z
  | .dkt _ _, ⟨_, h, _⟩, ps => fun z => by rw [h] at z; cases z
/-- the number by which the tables are let to change -/
def tI : Nat := 1000000
/-- the tables, and that they may change -/
def TabsZ (w : Wd) (Io : Nat → Av) (O : Av) (H : Hp) : Prop := ∀ p ∈ w.T, Io tI p.1 ∧ TabZ O H p.1 p.2
theorem TabsZ.step {w : Wd} {Io : Nat → Av} {O O' : Av} {H H' : Hp} (s : Step O H O' H') (e : ∀ p ∈ w.T, H' p.1 = H p.1) (h : TabsZ w Io O H) : TabsZ w Io O' H' := fun p hp => ⟨(h p hp).1, (h p hp).2.step s (e p hp)⟩
/-- .. but for one other thing -/
theorem TabsZ.stepB {w : Wd} {Io : Nat → Av} {O O' : Av} {H H' : Hp} (s : Step O H O' H') {a : Addr} (hk : ∀ b o, b ≠ a → H b = some o → H' b = some o) (ha : ∀ p ∈ w.T, p.1 ≠ a) (h : TabsZ w Io O H) : TabsZ w Io O' H' := h.step s fun p hp => by
  obtain ⟨ps, e⟩ := (h p hp).2.some
  rw [e]
  exact hk _ _ (ha p hp) e
theorem TabsZ.ne {w : Wd} {Io : Nat → Av} {O : Av} {H : Hp} (h : TabsZ w Io O H) {a : Addr} (ha : ∀ ps, H a ≠ some (.tbl ps)) : ∀ p ∈ w.T, p.1 ≠ a := fun p hp z => by
  obtain ⟨ps, e⟩ := (h p hp).2.some
  rw [z] at e
  exact ha ps e
theorem TabsZ.upd {w : Wd} {Io : Nat → Av} {O : Av} {H : Hp} (h : TabsZ w Io O H) {d : Addr} {u v : HO} (hd : H d = some v) (hv : ∀ ps, v ≠ .tbl ps) (hc : ∀ c r, v ≠ LamX.CodeO c r) : TabsZ w Io O (upd H d u) := fun p hp => by
  obtain ⟨h0, ps, h1, h2, h3⟩ := h p hp
  refine ⟨h0, ps, ?_, h2, fun pos cv hcv => ?_⟩
  · rw [upd_ne fun z => by rw [z, hd] at h1; exact hv ps (Option.some.inj h1)]
    exact h1
  · obtain ⟨c, e1, e2, e3⟩ := h3 pos cv hcv
    refine ⟨c, e1, e2, ?_⟩
    rw [upd_ne fun z => by rw [z, hd] at e3; exact hc _ _ (Option.some.inj e3)]
    exact e3
structure Rel (F : Fr) (O : Av) (ρ : En) (σ : St) (H : Hp) : Prop where
  len : ρ.length = σ.length
  b0 : ∀ a, F.B a → O a
  bh : ∀ a, F.B a → F.He a ≠ none
  ib : ∀ i a, F.Io i a → F.B a
  dom : ∀ a, O a → H a ≠ none
  doh : ∀ a, F.He a ≠ none → H a ≠ none
  keep : ∀ a o, F.He a = some o → (∀ i, ¬ F.Io i a) → H a = some o
  slot : ∀ (i : Nat) (s : Sl), ρ[i]? = some s → SlAt F O H i s (σ[i]?)
  dist : ∀ (i j : Nat) (s t : Sl), ρ[i]? = some s → ρ[j]? = some t → s.mu = true → t.mu = true → σ[i]? = σ[j]? → i = j
  tab : TabsZ F.w F.Io O H
theorem Rel.fresh {F : Fr} {O : Av} {ρ : En} {σ : St} {H : Hp} (R : Rel F O ρ σ H) {a : Addr} (h : H a = none) : ¬ O a := fun q => R.dom a q h
theorem Rel.freshE {F : Fr} {O : Av} {ρ : En} {σ : St} {H : Hp} (R : Rel F O ρ σ H) {a : Addr} (h : H a = none) : F.He a = none := by
  cases e : F.He a with
  | none => rfl
  | some o => exact absurd h (R.doh a (by rw [e]; simp))

/-- guarded, too -/
def ins (O : Av) (a : Addr) : Av := fun b => O b ∨ b = a
/-- guarded no longer -/
def off (O : Av) (a : Addr) : Av := fun b => O b ∧ b ≠ a
/-- no slot holds it to be changed -/
def Apart (ρ : En) (σ : St) (a : Addr) : Prop := ∀ (i : Nat) (s : Sl), ρ[i]? = some s → s.mu = true → σ[i]? ≠ some (some (.ref a))
theorem off_step {O : Av} {H : Hp} {a : Addr} : Step O H (off O a) H := ⟨fun _ h => .inl h.1, fun _ _ _ h => h, fun _ h => h⟩
theorem Rel.release {F : Fr} {O : Av} {ρ : En} {σ : St} {H : Hp} (R : Rel F O ρ σ H) {a : Addr} (ap : Apart ρ σ a) (hb : ¬ F.B a) : Rel F (off O a) ρ σ H where
  len := R.len
  b0 := fun b h => ⟨R.b0 b h, fun e => hb (e ▸ h)⟩
  bh := R.bh
  ib := R.ib
  dom := fun b h => R.dom b h.1
  doh := R.doh
  keep := R.keep
  slot := fun i s h => by
    have q := R.slot i s h
    cases s with
    | non => trivial
    | val d =>
      obtain ⟨v, e, q⟩ := q
      exact ⟨v, e, Rep.step off_step d v q⟩
    | own m =>
      obtain ⟨b, e, q1, q2, q3⟩ := q
      exact ⟨b, e, ⟨q1, fun z => ap i _ h rfl (z ▸ e)⟩, q2, q3.step off_step rfl⟩
    | io m =>
      obtain ⟨b, e, q1, q2⟩ := q
      exact ⟨b, e, q1, q2.step off_step rfl⟩
  dist := R.dist
  tab := R.tab.step off_step fun _ _ => rfl

/-! ### results -/
/-- an error: its class, by number, and what it keeps -/
inductive Xc where
  | own (c : Nat) (fs : List (Str × D)) | ty (n : String)
inductive Rs (α : Type) where
  | ok (a : α) (ρ : En) | exc (x : Xc) (ρ : En) | stuck
def Rs.bind {α β : Type} (r : Rs α) (f : α → En → Rs β) : Rs β := match r with
  | .ok a ρ => f a ρ
  | .exc x ρ => .exc x ρ
  | .stuck => .stuck
/-- a value, and whether it is new and nobody else's -/
abbrev Vl := D × Bool
abbrev ME := En → Rs Vl

def VlAt (w : Wd) (σ : St) (H : Hp) (ρ' : En) (O' : Av) (H' : Hp) (v : V) (x : Vl) : Prop := match x.2 with
  | false => Rep w O' H' x.1 v
  | true => ∃ a m, v = .ref a ∧ H a = none ∧ O' a ∧ m.is x.1 ∧ MuAt w O' H' a m ∧ Apart ρ' σ a

def XcAt (w : Wd) (O : Av) (H : Hp) (cls : Value) (d : Option Addr) : Xc → Prop
  | .own c fs => cls = .ref (w.cl c) ∧ match fs with
    | [] => d = none
    | f :: fs => ∃ a vs, d = some a ∧ ¬ O a ∧ H a = some (.xd (((f :: fs).map (·.1)).zip vs)) ∧ RepL w O H ((f :: fs).map (·.2)) vs
  | .ty n => cls = .type n ∧ d = none

/-- what must hold behind a result; RA: how the machine's answer tells the result's -/
def Hold {α β : Type} (F : Fr) (W : WX) (O : Av) (σ : St) (H : Hp) (RA : En → Av → Hp → β → α → Prop) (Q : β → Hp → Prop) : Rs α → Prop
  | .ok a ρ' => ∀ O' H' b, Step O H O' H' → Rel F O' ρ' σ H' → RA ρ' O' H' b a → Q b H'
  | .exc x ρ' => ∀ O' H' cls d, Step O H O' H' → Rel F O' ρ' σ H' → XcAt F.w O' H' cls d x → W cls d σ H'
  | .stuck => False

theorem Hold.later {α β : Type} {F : Fr} {W : WX} {O O1 : Av} {σ : St} {H H1 : Hp} {RA RB : En → Av → Hp → β → α → Prop} {Q : β → Hp → Prop} (s : Step O H O1 H1) (m : ∀ ρ' O' H' b a, Step O1 H1 O' H' → RB ρ' O' H' b a → RA ρ' O' H' b a) :
    ∀ {r : Rs α}, Hold F W O σ H RA Q r → Hold F W O1 σ H1 RB Q r
  | .ok a ρ', h => fun O' H' b st R ra => h O' H' b (s.trans st) R (m ρ' O' H' b a st ra)
  | .exc x ρ', h => fun O' H' cls d st R xa => h O' H' cls d (s.trans st) R xa
  | .stuck, h => h

/-- a value's answer -/
def RV (F : Fr) (σ : St) (H : Hp) : En → Av → Hp → V → Vl → Prop := fun ρ' O' H' v x => VlAt F.w σ H ρ' O' H' v x
theorem Step.none_back {O O1 : Av} {H H1 : Hp} (s : Step O H O1 H1) {p : Addr} (e : H1 p = none) : H p = none := by
  cases q : H p with
  | none => rfl
  | some o => exact absurd e (s.dom p (by rw [q]; simp))
theorem VlAt.later {w : Wd} {σ : St} {ρ' : En} {O O1 : Av} {H H1 : Hp} (s : Step O H O1 H1) {O' : Av} {H' : Hp} {v : V} : ∀ {x : Vl}, VlAt w σ H1 ρ' O' H' v x → VlAt w σ H ρ' O' H' v x
  | (d, false), h => h
  | (d, true), ⟨p, m, e1, e2, e3⟩ => ⟨p, m, e1, s.none_back e2, e3⟩
theorem RV.later {F : Fr} {σ : St} {O : Av} {H : Hp} {O1 : Av} {H1 : Hp} (s : Step O H O1 H1) : ∀ ρ' O' H' (b : V) (a : Vl), Step O1 H1 O' H' → RV F σ H1 ρ' O' H' b a → RV F σ H ρ' O' H' b a := fun ρ' O' H' b a _ h => VlAt.later s h
theorem Hold.laterV {F : Fr} {W : WX} {O O1 : Av} {σ : St} {H H1 : Hp} {Q : VK} {r : Rs Vl} (h : Hold F W O σ H (RV F σ H) Q r) (s : Step O H O1 H1) : Hold F W O1 σ H1 (RV F σ H1) Q r := h.later s (RV.later s)
/-- given away -/
theorem VlAt.release {F : Fr} {σ : St} {ρ' : En} {O O' : Av} {H H' : Hp} {v : V} (st : Step O H O' H') (R : Rel F O' ρ' σ H') (dh : ∀ a, F.He a ≠ none → H a ≠ none) : ∀ {x : Vl}, VlAt F.w σ H ρ' O' H' v x →
    ∃ O1, Step O H O1 H' ∧ Rel F O1 ρ' σ H' ∧ Rep F.w O1 H' x.1 v ∧ Step O' H' O1 H'
  | (d, false), h => ⟨O', st, R, h, Step.refl _ _⟩
  | (d, true), ⟨a, m, e1, e2, e3, e4, e5, e6⟩ => by
    subst e1
    have hb : ¬ F.B a := fun q => dh a (R.bh a q) e2
    exact ⟨off O' a, st.trans off_step, R.release e6 hb, (e5.step off_step rfl).rep (fun q => q.2 rfl) e4, off_step⟩

/-- te does what m says -/
def Sim (w : Wd) (W : WX) (te : TE) (m : ME) : Prop := ∀ (F : Fr) (O : Av) (ρ : En) (σ : St) (H : Hp) (Q : VK), F.w = w → Rel F O ρ σ H → Hold F W O σ H (RV F σ H) Q (m ρ) → te σ H Q

/-- one after the other, the first one's value as it is -/
theorem Sim.bindF {w : Wd} {W : WX} {ta : TE} {ma : ME} (ha : Sim w W ta ma) {F : Fr} {O : Av} {ρ : En} {σ : St} {H : Hp} (hw : F.w = w) (R : Rel F O ρ σ H) {α β : Type} {RA : En → Av → Hp → β → α → Prop} {Q : β → Hp → Prop} {f : Vl → En → Rs α}
    (h : Hold F W O σ H RA Q ((ma ρ).bind f)) {k : V → Hp → Prop}
    (hk : ∀ (x : Vl) (v : V) (ρ1 : En) (O1 : Av) (H1 : Hp), Step O H O1 H1 → Rel F O1 ρ1 σ H1 → VlAt F.w σ H ρ1 O1 H1 v x → Hold F W O σ H RA Q (f x ρ1) → k v H1) : ta σ H k := by
  refine ha F O ρ σ H k hw R ?_
  cases e : ma ρ with
  | ok x ρ1 =>
    rw [e] at h
    exact fun O1 H1 v st R1 rv => hk x v ρ1 O1 H1 st R1 rv h
  | exc x ρ1 =>
    rw [e] at h
    exact fun O1 H1 cls d st R1 xa => h O1 H1 cls d st R1 xa
  | stuck =>
    rw [e] at h
    exact h
/-- .. as data -/
theorem Sim.bind {w : Wd} {W : WX} {ta : TE} {ma : ME} (ha : Sim w W ta ma) {F : Fr} {O : Av} {ρ : En} {σ : St} {H : Hp} (hw : F.w = w) (R : Rel F O ρ σ H) {α β : Type} {RA : En → Av → Hp → β → α → Prop} {Q : β → Hp → Prop} {f : Vl → En → Rs α}
    (h : Hold F W O σ H RA Q ((ma ρ).bind f)) {k : V → Hp → Prop}
    (hk : ∀ (x : Vl) (v : V) (ρ1 : En) (O1 : Av) (H1 : Hp), Step O H O1 H1 → Rel F O1 ρ1 σ H1 → Rep F.w O1 H1 x.1 v → Hold F W O σ H RA Q (f x ρ1) → k v H1) : ta σ H k :=
  ha.bindF hw R h fun x v ρ1 O1 H1 st R1 rv h1 => by
    obtain ⟨O2, s2, R2, r2, _⟩ := VlAt.release st R1 R.doh rv
    exact hk x v ρ1 O2 H1 s2 R2 r2 h1

/-- an expression's judgement: the machine runs as m says -/
def PM (X : Cx) (w : Wd) (W : WX) (e : Expr) (m : ME) : Prop := ∃ te, PE X e te ∧ Sim w W te m
end PM

namespace PM
open PySem L2

/-! ### the heap grows -/
def Grow (H H' : Hp) : Prop := ∀ a o, H a = some o → H' a = some o
theorem Grow.refl (H : Hp) : Grow H H := fun _ _ h => h
theorem Grow.trans {H H1 H2 : Hp} (a : Grow H H1) (b : Grow H1 H2) : Grow H H2 := fun x o h => b x o (a x o h)
theorem Grow.new {H : Hp} {p : Addr} {o : HO} (h : H p = none) : Grow H (upd H p o) := fun a u e => by
  rw [upd_ne (ne_of_none e h)]
  exact e
theorem Grow.dom {H H' : Hp} (g : Grow H H') {a : Addr} (h : H a ≠ none) : H' a ≠ none := by
  cases e : H a with
  | none => exact absurd e h
  | some o => rw [g a o e]; simp
theorem Grow.step {O : Av} {H H' : Hp} (g : Grow H H') : Step O H O H' := ⟨fun _ h => .inl h, fun a o _ e => g a o e, fun _ h => g.dom h⟩
theorem Grow.back {H H' : Hp} (g : Grow H H') {a : Addr} (h : H' a = none) : H a = none := by
  cases e : H a with
  | none => rfl
  | some o => rw [g a o e] at h; cases h
theorem MuAt.grow {w : Wd} {O : Av} {H H' : Hp} (g : Grow H H') {a : Addr} : ∀ {m : Mu}, MuAt w O H a m → MuAt w O H' a m
  | .lst ds, ⟨vs, h1, h2⟩ => ⟨vs, g _ _ h1, RepL.step g.step ds vs h2⟩
  | .dct ks ds, ⟨kvs, h1, h2, h3⟩ => ⟨kvs, g _ _ h1, h2, RepL.step g.step ds _ h3⟩
  | .ins c fs, ⟨dx, vs, h1, h2, h3, h4, h5⟩ => ⟨dx, vs, g _ _ h1, h2, h3, g _ _ h4, RepO.step g.step fs vs h5⟩
  | .dkt ks ds, ⟨xs, h1, h2, h3, h4⟩ => ⟨xs, g _ _ h1, h2, RepL.step g.step ks _ h3, RepL.step g.step ds _ h4⟩
theorem SlAt.grow {F : Fr} {O : Av} {H H' : Hp} (g : Grow H H') : ∀ {i : Nat} {s : Sl} {o : Option (Option V)}, SlAt F O H i s o → SlAt F O H' i s o
  | _, .non, _, h => h
  | _, .val d, _, ⟨v, e, h⟩ => ⟨v, e, Rep.step g.step d v h⟩
  | _, .own m, _, ⟨a, e, h1, h2, h3⟩ => ⟨a, e, h1, h2, h3.grow g⟩
  | _, .io m, _, ⟨a, e, h1, h2⟩ => ⟨a, e, h1, h2.grow g⟩
theorem Rel.grow {F : Fr} {O : Av} {ρ : En} {σ : St} {H H' : Hp} (R : Rel F O ρ σ H) (g : Grow H H') : Rel F O ρ σ H' :=
  ⟨R.len, R.b0, R.bh, R.ib, fun a h => g.dom (R.dom a h), fun a h => g.dom (R.doh a h), fun a o h n => g a o (R.keep a o h n), fun i s h => (R.slot i s h).grow g, R.dist, R.tab.step g.step fun p hp => by obtain ⟨ps, e⟩ := (R.tab p hp).2.some; rw [e]; exact g _ _ e⟩

theorem Rel.guard {F : Fr} {O : Av} {ρ : En} {σ : St} {H H' : Hp} (R : Rel F O ρ σ H) (g : Grow H H') {a : Addr} (h : H a = none) (h' : H' a ≠ none) : Rel F (ins O a) ρ σ H' := by
  have st : Step O H (ins O a) H' := ⟨fun b q => q.elim .inl fun e => .inr (e ▸ h), fun b o _ e => g b o e, fun _ e => g.dom e⟩
  refine ⟨R.len, fun b q => .inl (R.b0 b q), R.bh, R.ib, fun b q => q.elim (fun q => g.dom (R.dom b q)) (fun e => e ▸ h'), fun b q => g.dom (R.doh b q), fun b o q n => g b o (R.keep b o q n), fun i s e => ?_, R.dist, R.tab.step st fun p hp => by obtain ⟨ps, e⟩ := (R.tab p hp).2.some; rw [e]; exact g _ _ e⟩
  have q := R.slot i s e
  cases s with
  | non => trivial
  | val d =>
    obtain ⟨v, e, q⟩ := q
    exact ⟨v, e, Rep.step st d v q⟩
  | own m =>
    obtain ⟨b, e, q1, q2, q3⟩ := q
    cases z : H b with
    | none => exact absurd z q3.some
    | some o => exact ⟨b, e, .inl q1, q2, q3.step st ((g b o z).trans z.symm)⟩
  | io m =>
    obtain ⟨b, e, q1, q3⟩ := q
    cases z : H b with
    | none => exact absurd z q3.some
    | some o => exact ⟨b, e, q1, q3.step st ((g b o z).trans z.symm)⟩
theorem Rel.apart {F : Fr} {O : Av} {ρ : En} {σ : St} {H : Hp} (R : Rel F O ρ σ H) {a : Addr} (h : H a = none) : Apart ρ σ a := fun i s e hm q => by
  have z := R.slot i s e
  cases s with
  | non => cases hm
  | val d => cases hm
  | own m =>
    obtain ⟨b, e, q1, q2, q3⟩ := z
    rw [q] at e
    cases e
    exact q3.some h
  | io m =>
    obtain ⟨b, e, q1, q3⟩ := z
    rw [q] at e
    cases e
    exact q3.some h

/-! ### what a value-level rule must tell -/
def GoAt (w : Wd) (O : Av) (H H' : Hp) (v : V) (z : Vl) : Prop := match z.2 with
  | false => Rep w O H' z.1 v
  | true => ∃ a m, v = .ref a ∧ H a = none ∧ m.is z.1 ∧ MuAt w (ins O a) H' a m
/-- the way on from a grown heap -/
def Go (w : Wd) (O : Av) (H : Hp) (z : Vl) (Q : VK) : Prop := ∀ v H', Grow H H' → GoAt w O H H' v z → Q v H'
theorem Go.val {w : Wd} {O : Av} {H : Hp} {d : D} {Q : VK} (g : Go w O H (d, false) Q) {v : V} (h : Rep w O H d v) : Q v H := g v H (Grow.refl H) h
theorem Go.later {w : Wd} {O : Av} {H H1 : Hp} {Q : VK} (s : Grow H H1) : ∀ {z : Vl}, Go w O H z Q → Go w O H1 z Q
  | (d, false), g => fun v H' g' h => g v H' (s.trans g') h
  | (d, true), g => fun v H' g' h => g v H' (s.trans g') (by
    obtain ⟨a, m, e1, e2, e3⟩ := h
    exact ⟨a, m, e1, s.back e2, e3⟩)
theorem ins_step {O : Av} {H H' : Hp} (g : Grow H H') {p : Addr} (hp : H p = none) : Step O H (ins O p) H' := ⟨fun b q => q.elim .inl fun e => .inr (e ▸ hp), fun b o _ e => g b o e, fun _ e => g.dom e⟩
/-- a new list, a new tuple -/
theorem Go.newL {w : Wd} {O : Av} {H : Hp} {ds : List D} {Q : VK} (g : Go w O H (.lst ds, true) Q) {vs : List V} (h : RepL w O H ds vs) {p : Addr} (hp : H p = none) : Q (.ref p) (upd H p (.lst vs)) :=
  g _ _ (Grow.new hp) ⟨p, .lst ds, rfl, hp, rfl, ⟨vs, upd_same, RepL.step (ins_step (Grow.new hp) hp) ds vs h⟩⟩
theorem Go.newT {w : Wd} {O : Av} {H : Hp} {ds : List D} {Q : VK} (g : Go w O H (.tup ds, false) Q) (dm : ∀ a, O a → H a ≠ none) {vs : List V} (h : RepL w O H ds vs) {p : Addr} (hp : H p = none) : Q (.ref p) (upd H p (.tup vs)) := by
  refine g _ _ (Grow.new hp) ?_
  show Rep w O _ (.tup ds) (.ref p)
  simp only [Rep]
  exact ⟨p, vs, rfl, .inl ⟨fun q => dm p q hp, upd_same⟩, RepL.step (Grow.new hp).step ds vs h⟩
def Dm (O : Av) (H : Hp) : Prop := ∀ a, O a → H a ≠ none
def Op2 (w : Wd) (r : R2) (f : D → D → Option Vl) : Prop := ∀ (O : Av) (H : Hp) (x y : D) (z : Vl) (vx vy : V) (Q : VK), Dm O H → f x y = some z → Rep w O H x vx → Rep w O H y vy → Go w O H z Q → r vx vy H Q
def Op1 (w : Wd) (r : V → Hp → VK → Prop) (f : D → Option Vl) : Prop := ∀ (O : Av) (H : Hp) (x : D) (z : Vl) (vx : V) (Q : VK), Dm O H → f x = some z → Rep w O H x vx → Go w O H z Q → r vx H Q
def OpN (w : Wd) (r : List V → Hp → VK → Prop) (f : List D → Option Vl) : Prop := ∀ (O : Av) (H : Hp) (xs : List D) (z : Vl) (vs : List V) (Q : VK), Dm O H → f xs = some z → RepL w O H xs vs → Go w O H z Q → r vs H Q
/-- a rule's end: the heap has grown -/
theorem Hold.go {F : Fr} {W : WX} {O O1 : Av} {σ : St} {H H1 : Hp} {ρ1 : En} {Q : VK} : ∀ {z : Vl}, Hold F W O σ H (RV F σ H) Q (.ok z ρ1) → Step O H O1 H1 → Rel F O1 ρ1 σ H1 → Go F.w O1 H1 z Q
  | (d, false), h, st, R => fun v H' g rv => h O1 H' v (st.trans g.step) (R.grow g) rv
  | (d, true), h, st, R => fun v H' g rv => by
    obtain ⟨a, m, e1, e2, e3, e4⟩ := rv
    exact h (ins O1 a) H' v (st.trans (ins_step g e2)) (R.guard g e2 e4.some) ⟨a, m, e1, st.none_back e2, .inr rfl, e3, e4, R.apart e2⟩

/-! ### the plain forms -/
def mC (d : D) : ME := fun ρ => .ok (d, false) ρ
def mVar (i : Nat) : ME := fun ρ => match ρ[i]? with
  | some (.val d) => .ok (d, false) ρ
  | _ => .stuck
def lift {α : Type} (o : Option α) (ρ : En) : Rs α := match o with
  | some z => .ok z ρ
  | none => .stuck
def mOp2 (f : D → D → Option Vl) (ma mb : ME) : ME := fun ρ => (ma ρ).bind fun x ρ1 => (mb ρ1).bind fun y ρ2 => lift (f x.1 y.1) ρ2
def mOp1 (f : D → Option Vl) (ma : ME) : ME := fun ρ => (ma ρ).bind fun x ρ1 => lift (f x.1) ρ1

section
variable {w : Wd} {W : WX} {X : Cx} {pos : Pos} {a b : Expr} {ma mb : ME} {ta tb : TE}
theorem sim_c {v : V} {d : D} (h : ∀ O H, Rep w O H d v) : Sim w W (tC v) (mC d) := fun F O ρ σ H Q e R hh => by
  subst e
  exact (hh.go (Step.refl O H) R).val (h O H)
theorem pm_int {i : Int} {j} : PM X w W (.Constant (.int i) j pos) (mC (.int i)) := ⟨_, pe_int, sim_c fun O H => by simp only [Rep]⟩
theorem pm_str {x : Str} {j} : PM X w W (.Constant (.str x) j pos) (mC (.str x)) := ⟨_, pe_str, sim_c fun O H => by simp only [Rep]⟩
theorem pm_bl {x : Bool} {j} : PM X w W (.Constant (.bool x) j pos) (mC (.bl x)) := ⟨_, pe_bl, sim_c fun O H => by simp only [Rep]⟩
theorem pm_non {j} : PM X w W (.Constant .none j pos) (mC .non) := ⟨_, pe_non, sim_c fun O H => by simp only [Rep]⟩
theorem pm_gint {x : Str} {i : Int} {t : Tok} (hg : Gl X x) (hm : X.mg x = some (.int i t)) (hd : (x == ("__debug__" : Str)) = false := by decide) : PM X w W (.Name x pos) (mC (.int i)) := ⟨_, pe_glob hg hm (v := .int i) ⟨t, rfl⟩ hd, sim_c fun O H => by simp only [Rep]⟩
theorem pm_gstr {x : Str} {i : Str} {t : Tok} (hg : Gl X x) (hm : X.mg x = some (.str i t)) (hd : (x == ("__debug__" : Str)) = false := by decide) : PM X w W (.Name x pos) (mC (.str i)) := ⟨_, pe_glob hg hm (v := .str i) ⟨t, rfl⟩ hd, sim_c fun O H => by simp only [Rep]⟩
theorem sim_var {i : Nat} : Sim w W (tVar i) (mVar i) := fun F O ρ σ H Q e R hh => by
  subst e
  unfold mVar at hh
  split at hh
  · rename_i d hd
    obtain ⟨v, e1, h1⟩ := R.slot i _ hd
    exact ⟨v, e1, (hh.go (Step.refl O H) R).val h1⟩
  · exact hh.elim
theorem pm_var (i : Nat) {x : Str} (hN : X.N[i]? = some x := by rfl) (hv : Vis X.env.scope x := by first | exact Or.inl rfl | exact Or.inr (Or.inl rfl) | exact Or.inr (Or.inr rfl)) (hd : (x == ("__debug__" : Str)) = false := by decide)
    (hcd : (x == ("__classdict__" : Str)) = false := by decide) : PM X w W (.Name x pos) (mVar i) := ⟨_, pv i hN hv hd hcd, sim_var⟩
theorem sim_op2 {r : R2} {f : D → D → Option Vl} (hl : Op2 w r f) (ha : Sim w W ta ma) (hb : Sim w W tb mb) : Sim w W (tOp r ta tb) (mOp2 f ma mb) := fun F O ρ σ H Q e R hh => by
  subst e
  refine ha.bind rfl R hh fun x v ρ1 O1 H1 st1 R1 rx h1 => ?_
  have h1' : Hold F W O1 σ H1 (RV F σ H1) Q ((mb ρ1).bind fun y ρ2 => lift (f x.1 y.1) ρ2) := h1.later st1 (RV.later st1)
  refine hb.bind rfl R1 h1' fun y u ρ2 O2 H2 st2 R2 ry h2 => ?_
  cases e : f x.1 y.1 with
  | none => rw [e] at h2; exact h2.elim
  | some z =>
    rw [e] at h2
    exact hl O2 H2 x.1 y.1 z v u Q R2.dom e (Rep.step st2 _ _ rx) ry (h2.go st2 R2)
theorem sim_op1 {r : V → Hp → VK → Prop} {f : D → Option Vl} (hl : Op1 w r f) (ha : Sim w W ta ma) : Sim w W (tUn r ta) (mOp1 f ma) := fun F O ρ σ H Q e R hh => by
  subst e
  refine ha.bind rfl R hh fun x v ρ1 O1 H1 st1 R1 rx h1 => ?_
  cases e : f x.1 with
  | none => rw [e] at h1; exact h1.elim
  | some z =>
    rw [e] at h1
    exact hl O1 H1 x.1 z v Q R1.dom e rx (h1.go st1 R1)
theorem pm_bin {op : Operator} {r : R2} {f : D → D → Option Vl} (ho : OpR X (binaryOp op) r) (hl : Op2 w r f) (ha : PM X w W a ma) (hb : PM X w W b mb) : PM X w W (.BinOp a op b pos) (mOp2 f ma mb) := by
  obtain ⟨ta, pa, sa⟩ := ha
  obtain ⟨tb, pb, sb⟩ := hb
  exact ⟨_, pe_op ho pa pb, sim_op2 hl sa sb⟩
theorem pm_un {op : UnaryOp} {r : V → Hp → VK → Prop} {f : D → Option Vl} (ho : UnR X (unaryOp op) r) (hl : Op1 w r f) (ha : PM X w W a ma) : PM X w W (.UnaryOp op a pos) (mOp1 f ma) := by
  obtain ⟨ta, pa, sa⟩ := ha
  exact ⟨_, pe_un ho pa, sim_op1 hl sa⟩
theorem pm_cmp {op : CmpOp} {r : R2} {f : D → D → Option Vl} (ho : OpR X (compareOp op) r) (hl : Op2 w r f) (ha : PM X w W a ma) (hb : PM X w W b mb) (hm : behindInMarks op b = false) : PM X w W (.Compare a [op] [b] pos) (mOp2 f ma mb) := by
  obtain ⟨ta, pa, sa⟩ := ha
  obtain ⟨tb, pb, sb⟩ := hb
  exact ⟨_, pe_cmpR ho pa pb hm, sim_op2 hl sa sb⟩
theorem pm_ix {r : R2} {f : D → D → Option Vl} (ho : IxR X r) (hl : Op2 w r f) (ha : PM X w W a ma) (hb : PM X w W b mb) (hs : PlainIx b) : PM X w W (.Subscript a b pos) (mOp2 f ma mb) := by
  obtain ⟨ta, pa, sa⟩ := ha
  obtain ⟨tb, pb, sb⟩ := hb
  exact ⟨_, pe_ix ho pa pb hs, sim_op2 hl sa sb⟩
end

/-! ### arguments -/
abbrev MA := En → Rs (List D)
def VlsAt (w : Wd) (ρ' : En) (O' : Av) (H' : Hp) (vs : List V) (xs : List D) : Prop := RepL w O' H' xs vs
def SimA (w : Wd) (W : WX) (ta : TA) (m : MA) : Prop := ∀ (F : Fr) (O : Av) (ρ : En) (σ : St) (H : Hp) (Q : List V → Hp → Prop), F.w = w → Rel F O ρ σ H → Hold F W O σ H (VlsAt F.w) Q (m ρ) → ta σ H Q
def PMA (X : Cx) (w : Wd) (W : WX) (es : List Expr) (m : MA) : Prop := ∃ t, PA X es t ∧ SimA w W t m
def mNil : MA := fun ρ => .ok [] ρ
def mCons (ma : ME) (mr : MA) : MA := fun ρ => (ma ρ).bind fun x ρ1 => (mr ρ1).bind fun xs ρ2 =>   .ok (x.1 :: xs) ρ2
theorem SimA.bind {w : Wd} {W : WX} {ta : TA} {ma : MA} (ha : SimA w W ta ma) {F : Fr} {O : Av} {ρ : En} {σ : St} {H : Hp} (hw : F.w = w) (R : Rel F O ρ σ H) {α β : Type} {RA : En → Av → Hp → β → α → Prop} {Q : β → Hp → Prop} {f : List D → En → Rs α}
    (h : Hold F W O σ H RA Q ((ma ρ).bind f)) {k : List V → Hp → Prop}
    (hk : ∀ (xs : List D) (vs : List V) (ρ1 : En) (O1 : Av) (H1 : Hp), Step O H O1 H1 → Rel F O1 ρ1 σ H1 → RepL F.w O1 H1 xs vs → Hold F W O σ H RA Q (f xs ρ1) → k vs H1) : ta σ H k := by
  refine ha F O ρ σ H k hw R ?_
  cases e : ma ρ with
  | ok x ρ1 =>
    rw [e] at h
    exact fun O1 H1 v st R1 rv => hk x v ρ1 O1 H1 st R1 rv h
  | exc x ρ1 =>
    rw [e] at h
    exact fun O1 H1 cls d st R1 xa => h O1 H1 cls d st R1 xa
  | stuck =>
    rw [e] at h
    exact h
def mCall (f : List D → Option Vl) (ma : MA) : ME := fun ρ => (ma ρ).bind fun xs ρ1 => lift (f xs) ρ1
section
variable {w : Wd} {W : WX} {X : Cx} {pos p : Pos} {e : Expr} {es : List Expr} {ma : ME} {mr : MA} {ta : TE} {tr : TA}
theorem sima_nil : SimA w W tNil mNil := fun F O ρ σ H Q e R hh => hh O H [] (Step.refl O H) R (by simp [VlsAt, RepL])
theorem sima_cons (ha : Sim w W ta ma) (hr : SimA w W tr mr) : SimA w W (tCons ta tr) (mCons ma mr) := fun F O ρ σ H Q e R hh => by
  subst e
  refine ha.bind rfl R hh fun x v ρ1 O1 H1 st1 R1 rx h1 => ?_
  refine hr.bind rfl R1 (h1.later st1 (RB := VlsAt F.w) fun _ _ _ _ _ _ q => q) fun xs vs ρ2 O2 H2 st2 R2 rs h2 => ?_
  refine h2 O2 H2 (v :: vs) st2 R2 ?_
  show RepL _ _ _ (x.1 :: xs) (v :: vs)
  simp only [RepL]
  exact ⟨v, vs, rfl, Rep.step st2 _ _ rx, rs⟩
theorem pma_nil : PMA X w W [] mNil := ⟨_, pa_nil, sima_nil⟩
theorem pma_cons (ha : PM X w W e ma) (hr : PMA X w W es mr) (hs : starEach (e :: es) X.env = (false, eval e X.env) :: starEach es X.env := by rfl) : PMA X w W (e :: es) (mCons ma mr) := by
  obtain ⟨ta, pa, sa⟩ := ha
  obtain ⟨tr, pr, sr⟩ := hr
  exact ⟨_, pa_cons pa pr hs, sima_cons sa sr⟩
theorem sim_call {r : List V → Hp → VK → Prop} {f : List D → Option Vl} (hl : OpN w r f) (ha : SimA w W tr mr) : Sim w W (tCB r tr) (mCall f mr) := fun F O ρ σ H Q e R hh => by
  subst e
  refine ha.bind rfl R hh fun xs vs ρ1 O1 H1 st1 R1 rs h1 => ?_
  cases e : f xs with
  | none => rw [e] at h1; exact h1.elim
  | some z =>
    rw [e] at h1
    exact hl O1 H1 _ z vs Q R1.dom e rs (h1.go st1 R1)
theorem pm_callB {id : String} {x : Str} {r : List V → Hp → VK → Prop} {f : List D → Option Vl} (hc : CallR X (.builtin id) r) (hl : OpN w r f) (hg : Gl X x) (hm : X.mg x = none) (hv : bootBuiltins x = some (.builtin id)) (ha : PMA X w W (e :: es) mr) (hn : x ≠ "__name__" := by decide) (hdb : (x == ("__debug__" : Str)) = false := by decide)
    (he : starEach (e :: es) X.env = (false, eval e X.env) :: starEach es X.env := by rfl) (hpl : (backTo pos (starEach es X.env)).any (·.1) = false := by rfl) : PM X w W (.Call (.Name x p) (e :: es) [] pos) (mCall f mr) := by
  obtain ⟨tr, pr, sr⟩ := ha
  exact ⟨_, pe_callB hc hg hm hv pr hn hdb he hpl, sim_call hl sr⟩
theorem pm_callTy {T : String} {x : Str} {r : List V → Hp → VK → Prop} {f : List D → Option Vl} (hc : CallR X (.type T) r) (hl : OpN w r f) (hg : Gl X x) (hm : X.mg x = none) (hv : bootBuiltins x = some (.type T)) (ha : PMA X w W (e :: es) mr) (hn : x ≠ "__name__" := by decide) (hdb : (x == ("__debug__" : Str)) = false := by decide)
    (he : starEach (e :: es) X.env = (false, eval e X.env) :: starEach es X.env := by rfl) (hpl : (backTo pos (starEach es X.env)).any (·.1) = false := by rfl) : PM X w W (.Call (.Name x p) (e :: es) [] pos) (mCall f mr) := by
  obtain ⟨tr, pr, sr⟩ := ha
  exact ⟨_, pe_callTy hc hg hm hv pr hn hdb he hpl, sim_call hl sr⟩
end
end PM

namespace PM
open PySem L2

/-! ### tests -/
abbrev MT := En → Rs Bool
def RBl : En → Av → Hp → Bool → Bool → Prop := fun _ _ _ b a => b = a
def SimT (w : Wd) (W : WX) (tt : TT) (m : MT) : Prop := ∀ (F : Fr) (O : Av) (ρ : En) (σ : St) (H : Hp) (Q : Bool → Hp → Prop), F.w = w → Rel F O ρ σ H → Hold F W O σ H RBl Q (m ρ) → tt σ H Q
def PMT (X : Cx) (w : Wd) (W : WX) (e : Expr) (m : MT) : Prop := ∃ t, PT X e t ∧ SimT w W t m
def PMW (X : Cx) (w : Wd) (W : WX) (e : Expr) (m : MT) : Prop := ∃ t, PW X e t ∧ SimT w W t m
theorem SimT.bind {w : Wd} {W : WX} {ta : TT} {ma : MT} (ha : SimT w W ta ma) {F : Fr} {O : Av} {ρ : En} {σ : St} {H : Hp} (hw : F.w = w) (R : Rel F O ρ σ H) {α β : Type} {RA : En → Av → Hp → β → α → Prop} {Q : β → Hp → Prop} {f : Bool → En → Rs α}
    (h : Hold F W O σ H RA Q ((ma ρ).bind f)) {k : Bool → Hp → Prop}
    (hk : ∀ (x : Bool) (ρ1 : En) (O1 : Av) (H1 : Hp), Step O H O1 H1 → Rel F O1 ρ1 σ H1 → Hold F W O σ H RA Q (f x ρ1) → k x H1) : ta σ H k := by
  refine ha F O ρ σ H k hw R ?_
  cases e : ma ρ with
  | ok x ρ1 =>
    rw [e] at h
    intro O1 H1 v st R1 rv
    have rv : v = x := rv
    subst rv
    exact hk v ρ1 O1 H1 st R1 h
  | exc x ρ1 =>
    rw [e] at h
    exact fun O1 H1 cls d st R1 xa => h O1 H1 cls d st R1 xa
  | stuck =>
    rw [e] at h
    exact h
def asB : D → Option Bool
  | .bl b => some b
  | _ => none
def mTest (m : ME) : MT := fun ρ => (m ρ).bind fun x ρ1 => lift (asB x.1) ρ1
def mAnd (a b : MT) : MT := fun ρ => (a ρ).bind fun x ρ1 => if x = true then b ρ1 else .ok false ρ1
def mOr (a b : MT) : MT := fun ρ => (a ρ).bind fun x ρ1 => if x = true then .ok true ρ1 else b ρ1
def mNot (a : MT) : MT := fun ρ => (a ρ).bind fun x ρ1 => .ok (!x) ρ1
def mIf (t : MT) (a b : ME) : ME := fun ρ => (t ρ).bind fun x ρ1 => if x = true then a ρ1 else b ρ1
/-- .. as values -/
def mAndV (a b : ME) : ME := fun ρ => (a ρ).bind fun x ρ1 => match asB x.1 with
  | some true => b ρ1
  | some false => .ok (.bl false, false) ρ1
  | none => .stuck
def mOrV (a b : ME) : ME := fun ρ => (a ρ).bind fun x ρ1 => match asB x.1 with
  | some true => .ok (.bl true, false) ρ1
  | some false => b ρ1
  | none => .stuck
def notD (d : D) : Option Vl := (asB d).map fun b => (.bl (!b), false)
def mNotV (a : ME) : ME := mOp1 notD a
/-- a op b op' c -/
def mChain (f g : D → D → Option Vl) (ma mb mc : ME) : ME := fun ρ => (ma ρ).bind fun x ρ1 => (mb ρ1).bind fun y ρ2 => match f x.1 y.1 with
  | some (.bl true, false) => (mc ρ2).bind fun z ρ3 => lift (g y.1 z.1) ρ3
  | some (.bl false, false) => .ok (.bl false, false) ρ2
  | _ => .stuck
section
variable {w : Wd} {W : WX} {X : Cx} {pos : Pos} {a b c : Expr} {ma mb mc : ME} {ta tb tc : TE} {tt uu : TT} {mt mu : MT} {rest : List Expr}
theorem asB_some {d : D} {b : Bool} (h : asB d = some b) : d = .bl b := by
  cases d <;> simp [asB] at h
  rw [h]
theorem rep_bl {O : Av} {H : Hp} {b : Bool} {v : V} (h : Rep w O H (.bl b) v) : v = .bl b := by simpa only [Rep] using h
theorem simt_test (ha : Sim w W ta ma) : SimT w W (tB ta) (mTest ma) := fun F O ρ σ H Q e R hh => by
  subst e
  refine ha.bind rfl R hh fun x v ρ1 O1 H1 st1 R1 rx h1 => ?_
  cases e : asB x.1 with
  | none => rw [e] at h1; exact h1.elim
  | some b =>
    rw [e] at h1
    rw [asB_some e] at rx
    exact ⟨b, rep_bl rx, h1 O1 H1 b st1 R1 rfl⟩
theorem pmt_val (ha : PM X w W a ma) (he : ∀ whole, isTrue a X.env whole = (do let v ← whole; standAt a.pos; holding [v] (truthy v)) := by intro _; rfl) : PMT X w W a (mTest ma) := by
  obtain ⟨ta, pa, sa⟩ := ha
  exact ⟨_, pt_val pa he, simt_test sa⟩
theorem pmt_cmp {op : CmpOp} {r : R2} {f : D → D → Option Vl} (ho : OpR X (compareOp op) r) (hl : Op2 w r f) (ha : PM X w W a ma) (hb : PM X w W b mb) (hm : behindInMarks op b = false) : PMT X w W (.Compare a [op] [b] pos) (mTest (mOp2 f ma mb)) := by
  obtain ⟨ta, pa, sa⟩ := ha
  obtain ⟨tb, pb, sb⟩ := hb
  exact ⟨_, pt_cmpR ho pa pb hm, simt_test (sim_op2 hl sa sb)⟩
theorem simt_or (ha : SimT w W tt mt) (hb : SimT w W uu mu) : SimT w W (tOr tt uu) (mOr mt mu) := fun F O ρ σ H Q e R hh => by
  subst e
  refine ha.bind rfl R hh fun x ρ1 O1 H1 st1 R1 h1 => ?_
  cases x with
  | true => exact iteT (h1 O1 H1 true st1 R1 rfl)
  | false => exact iteF (hb F O1 ρ1 σ H1 Q rfl R1 (h1.later st1 fun _ _ _ _ _ _ q => q))
theorem simt_not (ha : SimT w W tt mt) : SimT w W (tNot tt) (mNot mt) := fun F O ρ σ H Q e R hh => by
  subst e
  refine ha.bind rfl R hh fun x ρ1 O1 H1 st1 R1 h1 => ?_
  exact h1 O1 H1 (!x) st1 R1 rfl
theorem pmw_or1 (ha : PMT X w W a mt) : PMW X w W (.BoolOp .Or [a] pos) mt := by
  obtain ⟨ta, pa, sa⟩ := ha
  exact ⟨_, pw_or1 pa, sa⟩
theorem pmw_or (ha : PMT X w W a mt) (hb : PMW X w W (.BoolOp .Or (b :: rest) pos) mu) : PMW X w W (.BoolOp .Or (a :: b :: rest) pos) (mOr mt mu) := by
  obtain ⟨ta, pa, sa⟩ := ha
  obtain ⟨tb, pb, sb⟩ := hb
  exact ⟨_, pw_or pa pb, simt_or sa sb⟩
theorem PMW.pt (h : PMW X w W a mt) : PMT X w W a mt := by
  obtain ⟨t, p, s⟩ := h
  exact ⟨t, p.pt, s⟩
theorem pmt_not (ha : PMT X w W a mt) : PMT X w W (.UnaryOp .Not a pos) (mNot mt) := by
  obtain ⟨ta, pa, sa⟩ := ha
  exact ⟨_, pt_not pa, simt_not sa⟩
theorem sim_if (ht : SimT w W tt mt) (ha : Sim w W ta ma) (hb : Sim w W tb mb) : Sim w W (tIf tt ta tb) (mIf mt ma mb) := fun F O ρ σ H Q e R hh => by
  subst e
  refine ht.bind rfl R hh fun x ρ1 O1 H1 st1 R1 h1 => ?_
  cases x with
  | true => exact iteT (ha F O1 ρ1 σ H1 Q rfl R1 (h1.laterV st1))
  | false => exact iteF (hb F O1 ρ1 σ H1 Q rfl R1 (h1.laterV st1))
theorem pm_if (ht : PMT X w W c mt) (ha : PM X w W a ma) (hb : PM X w W b mb) : PM X w W (.IfExp c a b pos) (mIf mt ma mb) := by
  obtain ⟨tt, pt, st⟩ := ht
  obtain ⟨ta, pa, sa⟩ := ha
  obtain ⟨tb, pb, sb⟩ := hb
  exact ⟨_, pe_ifExp pt pa pb, sim_if st sa sb⟩
theorem Hold.bl {F : Fr} {W : WX} {O O1 : Av} {σ : St} {H H1 : Hp} {ρ1 : En} {Q : VK} {b : Bool} (h : Hold F W O σ H (RV F σ H) Q (.ok (.bl b, false) ρ1)) (st : Step O H O1 H1) (R : Rel F O1 ρ1 σ H1) : Q (.bl b) H1 :=
  (h.go st R).val (by simp only [Rep])
theorem sim_andV (ha : Sim w W ta ma) (hb : Sim w W tb mb) : Sim w W (tAndV ta tb) (mAndV ma mb) := fun F O ρ σ H Q e R hh => by
  subst e
  refine ha.bind rfl R hh fun x v ρ1 O1 H1 st1 R1 rx h1 => ?_
  cases e : asB x.1 with
  | none => rw [e] at h1; exact h1.elim
  | some c =>
    rw [e] at h1
    rw [asB_some e] at rx
    refine ⟨c, rep_bl rx, ?_⟩
    cases c with
    | true => exact iteT (hb F O1 ρ1 σ H1 Q rfl R1 (h1.laterV st1))
    | false => exact iteF (h1.bl st1 R1)
theorem sim_orV (ha : Sim w W ta ma) (hb : Sim w W tb mb) : Sim w W (tOrV ta tb) (mOrV ma mb) := fun F O ρ σ H Q e R hh => by
  subst e
  refine ha.bind rfl R hh fun x v ρ1 O1 H1 st1 R1 rx h1 => ?_
  cases e : asB x.1 with
  | none => rw [e] at h1; exact h1.elim
  | some c =>
    rw [e] at h1
    rw [asB_some e] at rx
    refine ⟨c, rep_bl rx, ?_⟩
    cases c with
    | true => exact iteT (h1.bl st1 R1)
    | false => exact iteF (hb F O1 ρ1 σ H1 Q rfl R1 (h1.laterV st1))
theorem sim_notV (ha : Sim w W ta ma) : Sim w W (tNotV ta) (mNotV ma) := fun F O ρ σ H Q e R hh => by
  subst e
  refine ha.bind rfl R hh fun x v ρ1 O1 H1 st1 R1 rx h1 => ?_
  unfold notD at h1
  cases e : asB x.1 with
  | none => rw [e] at h1; exact h1.elim
  | some c =>
    rw [e] at h1
    rw [asB_some e] at rx
    exact ⟨c, rep_bl rx, Hold.bl h1 st1 R1⟩
theorem pm_one {op} (ha : PM X w W a ma) : PM X w W (.BoolOp op [a] pos) ma := by
  obtain ⟨ta, pa, sa⟩ := ha
  exact ⟨_, pe_one pa, sa⟩
theorem pm_and (ha : PM X w W a ma) (hb : PM X w W (.BoolOp .And (b :: rest) pos) mb) : PM X w W (.BoolOp .And (a :: b :: rest) pos) (mAndV ma mb) := by
  obtain ⟨ta, pa, sa⟩ := ha
  obtain ⟨tb, pb, sb⟩ := hb
  exact ⟨_, pe_and pa pb, sim_andV sa sb⟩
theorem pm_or (ha : PM X w W a ma) (hb : PM X w W (.BoolOp .Or (b :: rest) pos) mb) : PM X w W (.BoolOp .Or (a :: b :: rest) pos) (mOrV ma mb) := by
  obtain ⟨ta, pa, sa⟩ := ha
  obtain ⟨tb, pb, sb⟩ := hb
  exact ⟨_, pe_or pa pb, sim_orV sa sb⟩
theorem pm_not (ha : PM X w W a ma) : PM X w W (.UnaryOp .Not a pos) (mNotV ma) := by
  obtain ⟨ta, pa, sa⟩ := ha
  exact ⟨_, pe_not pa, sim_notV sa⟩
theorem sim_chain {r r' : R2} {f g : D → D → Option Vl} (hl : Op2 w r f) (hl' : Op2 w r' g) (ha : Sim w W ta ma) (hb : Sim w W tb mb) (hc : Sim w W tc mc) : Sim w W (tChain r r' ta tb tc) (mChain f g ma mb mc) := fun F O ρ σ H Q e R hh => by
  subst e
  refine ha.bind rfl R hh fun x v ρ1 O1 H1 st1 R1 rx h1 => ?_
  refine hb.bind rfl R1 (h1.laterV st1) fun y u ρ2 O2 H2 st2 R2 ry h2 => ?_
  have fin : ∀ k, f x.1 y.1 = some (.bl k, false) → ((k = true → ∀ H3, Grow H2 H3 → tc σ H3 fun w' H4 => r' u w' H4 Q) ∧ (k = false → ∀ H3, Grow H2 H3 → Q (.bl false) H3)) → r v u H2 fun z H3 => ∃ k, z = .bl k ∧ (if k = true then tc σ H3 fun w' H4 => r' u w' H4 Q else Q (.bl false) H3) := fun k e kk =>
    hl O2 H2 x.1 y.1 _ v u _ R2.dom e (Rep.step st2 _ _ rx) ry fun z H3 gr gv => by
      refine ⟨k, rep_bl (w := F.w) (O := O2) (H := H3) gv, ?_⟩
      cases k with
      | true => exact iteT (kk.1 rfl H3 gr)
      | false => exact iteF (kk.2 rfl H3 gr)
  split at h2
  · rename_i e
    refine fin true e ⟨fun _ H3 gr => ?_, fun q => by cases q⟩
    refine hc.bind rfl (R2.grow gr) (h2.laterV (st2.trans gr.step)) fun z u' ρ3 O3 H4 st3 R3 rz h3 => ?_
    cases e : g y.1 z.1 with
    | none => rw [e] at h3; exact h3.elim
    | some zz =>
      rw [e] at h3
      exact hl' O3 H4 y.1 z.1 zz u u' Q R3.dom e (Rep.step (gr.step.trans st3) _ _ ry) rz (h3.go st3 R3)
  · rename_i e
    exact fin false e ⟨fun q => (by cases q), fun _ H3 gr => h2.bl (st2.trans gr.step) (R2.grow gr)⟩
  · exact h2.elim
theorem pm_chain {op op' : CmpOp} {r r' : R2} {f g : D → D → Option Vl} (ho : OpR X (compareOp op) r) (ho' : OpR X (compareOp op') r') (hl : Op2 w r f) (hl' : Op2 w r' g) (ha : PM X w W a ma) (hb : PM X w W b mb) (hc : PM X w W c mc)
    (hm : lastMarks [op, op'] [b, c] = false := by with_unfolding_all rfl) : PM X w W (.Compare a [op, op'] [b, c] pos) (mChain f g ma mb mc) := by
  obtain ⟨ta, pa, sa⟩ := ha
  obtain ⟨tb, pb, sb⟩ := hb
  obtain ⟨tc, pc, sc⟩ := hc
  exact ⟨_, pe_chain ho ho' pa pb pc hm, sim_chain hl hl' sa sb sc⟩
theorem pmt_chain {op op' : CmpOp} {r r' : R2} {f g : D → D → Option Vl} (ho : OpR X (compareOp op) r) (ho' : OpR X (compareOp op') r') (hl : Op2 w r f) (hl' : Op2 w r' g) (ha : PM X w W a ma) (hb : PM X w W b mb) (hc : PM X w W c mc)
    (hm : lastMarks [op, op'] [b, c] = false := by with_unfolding_all rfl) : PMT X w W (.Compare a [op, op'] [b, c] pos) (mTest (mChain f g ma mb mc)) := by
  obtain ⟨ta, pa, sa⟩ := ha
  obtain ⟨tb, pb, sb⟩ := hb
  obtain ⟨tc, pc, sc⟩ := hc
  exact ⟨_, pt_chain ho ho' pa pb pc hm, simt_test (sim_chain hl hl' sa sb sc)⟩

/-! ### displays -/
def mTup (ma : MA) : ME := fun ρ => (ma ρ).bind fun xs ρ1 => if xs.length ≤ sizeLine then .ok (.tup xs, false) ρ1 else .stuck
def mLst (ma : MA) : ME := fun ρ => (ma ρ).bind fun xs ρ1 => if xs.length ≤ sizeLine then .ok (.lst xs, true) ρ1 else .stuck
theorem RepL.length {O : Av} {H : Hp} : ∀ {ds : List D} {vs : List V}, RepL w O H ds vs → vs.length = ds.length
  | [], vs, h => by
    simp only [RepL] at h
    rw [h] <;> rfl
  | d :: ds, vs, h => by
    simp only [RepL] at h
    obtain ⟨v, vs', e, _, h2⟩ := h
    rw [e]
    simp [RepL.length h2]
theorem pm_tup {es : List Expr} {k} {mr : MA} (h : PMA X w W es mr) : PM X w W (.Tuple es k pos) (mTup mr) := by
  obtain ⟨t, p, s⟩ := h
  refine ⟨_, pe_tup p, fun F O ρ σ H Q e R hh => ?_⟩
  subst e
  refine s.bind rfl R hh fun xs vs ρ1 O1 H1 st1 R1 rs h1 => ?_
  split at h1
  · rename_i hz
    exact ⟨by rw [rs.length]; exact hz, fun p hp => (h1.go st1 R1).newT R1.dom rs hp⟩
  · exact h1.elim
theorem pm_lst {es : List Expr} {mr : MA} (h : PMA X w W es mr) : PM X w W (.List es pos) (mLst mr) := by
  obtain ⟨t, p, s⟩ := h
  refine ⟨_, pe_lst p, fun F O ρ σ H Q e R hh => ?_⟩
  subst e
  refine s.bind rfl R hh fun xs vs ρ1 O1 H1 st1 R1 rs h1 => ?_
  split at h1
  · rename_i hz
    exact ⟨by rw [rs.length]; exact hz, fun p hp => (h1.go st1 R1).newL rs hp⟩
  · exact h1.elim
end
end PM

namespace PM
open PySem L2

/-! ### slots change -/
def notIo : Option Sl → Bool
  | some (.io _) => false
  | some _ => true
  | none => false
theorem get_set {α : Type} {l : List α} {i j : Nat} {x y : α} (h : (l.set i x)[j]? = some y) : (i = j ∧ y = x) ∨ (i ≠ j ∧ l[j]? = some y) := by
  by_cases e : i = j
  · subst e
    rw [List.getElem?_set_self'] at h
    cases q : l[i]? with
    | none => rw [q] at h; cases h
    | some z => rw [q] at h; cases h; exact .inl ⟨rfl, rfl⟩
  · rw [List.getElem?_set_ne e] at h
    exact .inr ⟨e, h⟩
theorem lt_of_get {α : Type} {l : List α} {i : Nat} {x : α} (h : l[i]? = some x) : i < l.length := (List.getElem?_eq_some_iff.mp h).1
section
variable {F : Fr} {O : Av} {ρ : En} {σ : St} {H : Hp}
theorem Rel.setV (R : Rel F O ρ σ H) {i : Nat} {d : D} {v : V} (h : Rep F.w O H d v) (hi : notIo (ρ[i]?) = true) : Rel F O (ρ.set i (.val d)) (σ.set i (some v)) H := by
  have hl : i < ρ.length := by
    cases e : ρ[i]? with
    | none => rw [e] at hi; cases hi
    | some s => exact lt_of_get e
  have hs : i < σ.length := by rw [← R.len]; exact hl
  refine ⟨by simp [R.len], R.b0, R.bh, R.ib, R.dom, R.doh, R.keep, fun j s e => ?_, fun j k s t e1 e2 m1 m2 q => ?_, R.tab⟩
  · rcases get_set e with ⟨e1, e2⟩ | ⟨e1, e2⟩
    · subst e1
      subst e2
      exact ⟨v, List.getElem?_set_self hs, h⟩
    · rw [List.getElem?_set_ne e1]
      exact R.slot j s e2
  · rcases get_set e1 with ⟨a1, a2⟩ | ⟨a1, a2⟩
    · subst a2; cases m1
    · rcases get_set e2 with ⟨b1, b2⟩ | ⟨b1, b2⟩
      · subst b2; cases m2
      · rw [List.getElem?_set_ne a1, List.getElem?_set_ne b1] at q
        exact R.dist j k s t a2 b2 m1 m2 q
theorem Rel.setO (R : Rel F O ρ σ H) {i : Nat} {m : Mu} {a : Addr} (h : MuAt F.w O H a m) (ho : O a) (he : F.He a = none) (ap : Apart ρ σ a) (hi : notIo (ρ[i]?) = true) : Rel F O (ρ.set i (.own m)) (σ.set i (some (.ref a))) H := by
  have hl : i < ρ.length := by
    cases e : ρ[i]? with
    | none => rw [e] at hi; cases hi
    | some s => exact lt_of_get e
  have hs : i < σ.length := by rw [← R.len]; exact hl
  refine ⟨by simp [R.len], R.b0, R.bh, R.ib, R.dom, R.doh, R.keep, fun j s e => ?_, fun j k s t e1 e2 m1 m2 q => ?_, R.tab⟩
  · rcases get_set e with ⟨e1, e2⟩ | ⟨e1, e2⟩
    · subst e1
      subst e2
      exact ⟨a, List.getElem?_set_self hs, ho, he, h⟩
    · rw [List.getElem?_set_ne e1]
      exact R.slot j s e2
  · rcases get_set e1 with ⟨a1, a2⟩ | ⟨a1, a2⟩
    · rcases get_set e2 with ⟨b1, b2⟩ | ⟨b1, b2⟩
      · exact a1.symm.trans b1
      · subst a1
        rw [List.getElem?_set_self hs, List.getElem?_set_ne b1] at q
        exact absurd q.symm (ap k t b2 m2)
    · rcases get_set e2 with ⟨b1, b2⟩ | ⟨b1, b2⟩
      · subst b1
        rw [List.getElem?_set_self hs, List.getElem?_set_ne a1] at q
        exact absurd q (ap j s a2 m1)
      · rw [List.getElem?_set_ne a1, List.getElem?_set_ne b1] at q
        exact R.dist j k s t a2 b2 m1 m2 q
/-- a slot is emptied -/
theorem Rel.setN (R : Rel F O ρ σ H) {i : Nat} : Rel F O (ρ.set i .non) σ H := by
  refine ⟨by simp [R.len], R.b0, R.bh, R.ib, R.dom, R.doh, R.keep, fun j s e => ?_, fun j k s t e1 e2 m1 m2 q => ?_, R.tab⟩
  · rcases get_set e with ⟨e1, e2⟩ | ⟨e1, e2⟩
    · subst e2
      trivial
    · exact R.slot j s e2
  · rcases get_set e1 with ⟨a1, a2⟩ | ⟨a1, a2⟩
    · subst a2; cases m1
    · rcases get_set e2 with ⟨b1, b2⟩ | ⟨b1, b2⟩
      · subst b2; cases m2
      · exact R.dist j k s t a2 b2 m1 m2 q
/-- the content of a slot -/
def Sl.get : Sl → Option Mu
  | .own m => some m
  | .io m => some m
  | _ => none
def Sl.put : Sl → Mu → Sl
  | .own _, m => .own m
  | .io _, m => .io m
  | s, _ => s
theorem Rel.muAt (R : Rel F O ρ σ H) {i : Nat} {s : Sl} {m : Mu} (e : ρ[i]? = some s) (h : s.get = some m) : ∃ a, σ[i]? = some (some (.ref a)) ∧ O a ∧ MuAt F.w O H a m := by
  have q := R.slot i s e
  cases s with
  | non => cases h
  | val d => cases h
  | own m' =>
    cases h
    obtain ⟨a, e1, e2, e3, e4⟩ := q
    exact ⟨a, e1, e2, e4⟩
  | io m' =>
    cases h
    obtain ⟨a, e1, e2, e4⟩ := q
    exact ⟨a, e1, R.b0 a (R.ib i a e2), e4⟩
theorem Rel.ntab (R : Rel F O ρ σ H) {i : Nat} {s : Sl} {m : Mu} {a : Addr} (e : ρ[i]? = some s) (h : s.get = some m) (ea : σ[i]? = some (some (.ref a))) : ∀ p ∈ F.w.T, p.1 ≠ a := by
  obtain ⟨b, eb, _, hm⟩ := R.muAt e h
  rw [ea] at eb
  cases eb
  exact R.tab.ne hm.ntab
theorem mut_step {a : Addr} {o' : HO} (h : O a) : Step O H O (upd H a o') := ⟨fun _ q => .inl q, fun b o n e => (upd_ne (fun z : b = a => n (by rw [z]; exact h))).trans e, fun b q => by
  by_cases e : b = a
  · subst e; rw [upd_same]; simp
  · rw [upd_ne e]; exact q⟩
theorem Rel.mut (R : Rel F O ρ σ H) {i : Nat} {s : Sl} {m m' : Mu} {a : Addr} {o' : HO} (e : ρ[i]? = some s) (h : s.get = some m) (ea : σ[i]? = some (some (.ref a))) (ho : O a) (h' : MuAt F.w O (upd H a o') a m') :
    Rel F O (ρ.set i (s.put m')) σ (upd H a o') := by
  have st : Step O H O (upd H a o') := mut_step ho
  have hmu : s.mu = true := by cases s <;> first | rfl | cases h
  have hget : ∀ {b : Addr} {o : HO}, H b = some o → b ≠ a → (upd H a o') b = some o := fun q n => by rw [upd_ne n]; exact q
  refine ⟨by simp [R.len], R.b0, R.bh, R.ib, fun b q => st.dom b (R.dom b q), fun b q => st.dom b (R.doh b q), fun b o q n => ?_, fun j t e1 => ?_, fun j k t u e1 e2 m1 m2 q => ?_, R.tab.stepB st (fun b o n e => hget e n) (R.ntab e h ea)⟩
  · have hb := R.keep b o q n
    refine hget hb fun z => ?_
    subst z
    have q2 := R.slot i s e
    cases s with
    | non => cases h
    | val d => cases h
    | own m0 =>
      obtain ⟨c, c1, c2, c3, c4⟩ := q2
      rw [ea] at c1
      cases c1
      rw [q] at c3
      cases c3
    | io m0 =>
      obtain ⟨c, c1, c2, c4⟩ := q2
      rw [ea] at c1
      cases c1
      exact n i c2
  · rcases get_set e1 with ⟨a1, a2⟩ | ⟨a1, a2⟩
    · subst a1
      subst a2
      have q2 := R.slot i s e
      cases s with
      | non => cases h
      | val d => cases h
      | own m0 =>
        obtain ⟨c, c1, c2, c3, c4⟩ := q2
        rw [ea] at c1
        cases c1
        exact ⟨a, ea, ho, c3, h'⟩
      | io m0 =>
        obtain ⟨c, c1, c2, c4⟩ := q2
        rw [ea] at c1
        cases c1
        exact ⟨a, ea, c2, h'⟩
    · have q2 := R.slot j t a2
      cases t with
      | non => trivial
      | val d =>
        obtain ⟨v, c1, c2⟩ := q2
        exact ⟨v, c1, Rep.step st d v c2⟩
      | own m0 =>
        obtain ⟨c, c1, c2, c3, c4⟩ := q2
        refine ⟨c, c1, c2, c3, c4.step st (upd_ne fun z => ?_)⟩
        subst z
        exact a1 (R.dist i j s _ e a2 hmu rfl (ea.trans c1.symm))
      | io m0 =>
        obtain ⟨c, c1, c2, c4⟩ := q2
        refine ⟨c, c1, c2, c4.step st (upd_ne fun z => ?_)⟩
        subst z
        exact a1 (R.dist i j s _ e a2 hmu rfl (ea.trans c1.symm))
  · have key : ∀ (j : Nat) (t : Sl), (ρ.set i (s.put m'))[j]? = some t → t.mu = true → ∃ t', ρ[j]? = some t' ∧ t'.mu = true := fun j t e1 m1 => by
      rcases get_set e1 with ⟨a1, a2⟩ | ⟨a1, a2⟩
      · subst a1
        exact ⟨s, e, hmu⟩
      · exact ⟨t, a2, m1⟩
    obtain ⟨t', f1, f2⟩ := key j t e1 m1
    obtain ⟨u', g1, g2⟩ := key k u e2 m2
    exact R.dist j k t' u' f1 g1 f2 g2 q
end

/-! ### statements -/
inductive Fl where
  | nx | rt (v : Vl) | bk | ct
abbrev MS := En → Rs Fl
def RetAt (F : Fr) (O' : Av) (H' : Hp) (v : V) (x : Vl) : Prop := match x.2 with
  | false => Rep F.w O' H' x.1 v
  | true => ∃ a m, v = .ref a ∧ F.He a = none ∧ O' a ∧ m.is x.1 ∧ MuAt F.w O' H' a m
def HoldS (F : Fr) (W : WX) (O : Av) (H : Hp) (E : Ends) : Rs Fl → Prop
  | .ok .nx ρ' => ∀ O' σ' H', Step O H O' H' → Rel F O' ρ' σ' H' → E.nx σ' H'
  | .ok (.rt x) ρ' => ∀ O' σ' H' v, Step O H O' H' → Rel F O' ρ' σ' H' → RetAt F O' H' v x → E.rt v H'
  | .ok .bk ρ' => ∀ O' σ' H', Step O H O' H' → Rel F O' ρ' σ' H' → E.bk σ' H'
  | .ok .ct ρ' => ∀ O' σ' H', Step O H O' H' → Rel F O' ρ' σ' H' → E.ct σ' H'
  | .exc x ρ' => ∀ O' σ' H' cls d, Step O H O' H' → Rel F O' ρ' σ' H' → XcAt F.w O' H' cls d x → W cls d σ' H'
  | .stuck => False
theorem HoldS.later {F : Fr} {W : WX} {O O1 : Av} {H H1 : Hp} {E : Ends} (s : Step O H O1 H1) : ∀ {r : Rs Fl}, HoldS F W O H E r → HoldS F W O1 H1 E r
  | .ok .nx _, h => fun O' σ' H' st R => h O' σ' H' (s.trans st) R
  | .ok (.rt x) _, h => fun O' σ' H' v st R rv => h O' σ' H' v (s.trans st) R rv
  | .ok .bk _, h => fun O' σ' H' st R => h O' σ' H' (s.trans st) R
  | .ok .ct _, h => fun O' σ' H' st R => h O' σ' H' (s.trans st) R
  | .exc _ _, h => fun O' σ' H' cls d st R xa => h O' σ' H' cls d (s.trans st) R xa
  | .stuck, h => h
def SimS (w : Wd) (W : WX) (ts : TS) (m : MS) : Prop := ∀ (F : Fr) (O : Av) (ρ : En) (σ : St) (H : Hp) (E : Ends), F.w = w → Rel F O ρ σ H → HoldS F W O H E (m ρ) → ts E σ H
def PMS (X : Cx) (w : Wd) (W : WX) (st : Stmt) (m : MS) : Prop := ∃ t, PS X st t ∧ SimS w W t m
def PMSs (X : Cx) (w : Wd) (W : WX) (st : List Stmt) (m : MS) : Prop := ∃ t, PSs X st t ∧ SimS w W t m

/-- an expression, then a statement's rest -/
theorem Sim.bindS {w : Wd} {W : WX} {ta : TE} {ma : ME} (ha : Sim w W ta ma) {F : Fr} {O : Av} {ρ : En} {σ : St} {H : Hp} (hw : F.w = w) (R : Rel F O ρ σ H) {E : Ends} {f : Vl → En → Rs Fl} (h : HoldS F W O H E ((ma ρ).bind f)) {k : V → Hp → Prop}
    (hk : ∀ (x : Vl) (v : V) (ρ1 : En) (O1 : Av) (H1 : Hp), Step O H O1 H1 → Rel F O1 ρ1 σ H1 → VlAt F.w σ H ρ1 O1 H1 v x → HoldS F W O1 H1 E (f x ρ1) → k v H1) : ta σ H k := by
  refine ha F O ρ σ H k hw R ?_
  cases e : ma ρ with
  | ok x ρ1 =>
    rw [e] at h
    exact fun O1 H1 v st R1 rv => hk x v ρ1 O1 H1 st R1 rv (h.later st)
  | exc x ρ1 =>
    rw [e] at h
    exact fun O1 H1 cls d st R1 xa => h O1 σ H1 cls d st R1 xa
  | stuck =>
    rw [e] at h
    exact h
theorem SimT.bindS {w : Wd} {W : WX} {ta : TT} {ma : MT} (ha : SimT w W ta ma) {F : Fr} {O : Av} {ρ : En} {σ : St} {H : Hp} (hw : F.w = w) (R : Rel F O ρ σ H) {E : Ends} {f : Bool → En → Rs Fl} (h : HoldS F W O H E ((ma ρ).bind f)) {k : Bool → Hp → Prop}
    (hk : ∀ (x : Bool) (ρ1 : En) (O1 : Av) (H1 : Hp), Step O H O1 H1 → Rel F O1 ρ1 σ H1 → HoldS F W O1 H1 E (f x ρ1) → k x H1) : ta σ H k := by
  refine ha F O ρ σ H k hw R ?_
  cases e : ma ρ with
  | ok x ρ1 =>
    rw [e] at h
    intro O1 H1 v st R1 rv
    have rv : v = x := rv
    subst rv
    exact hk v ρ1 O1 H1 st R1 (h.later st)
  | exc x ρ1 =>
    rw [e] at h
    exact fun O1 H1 cls d st R1 xa => h O1 σ H1 cls d st R1 xa
  | stuck =>
    rw [e] at h
    exact h
theorem SimA.bindS {w : Wd} {W : WX} {ta : TA} {ma : MA} (ha : SimA w W ta ma) {F : Fr} {O : Av} {ρ : En} {σ : St} {H : Hp} (hw : F.w = w) (R : Rel F O ρ σ H) {E : Ends} {f : List D → En → Rs Fl} (h : HoldS F W O H E ((ma ρ).bind f)) {k : List V → Hp → Prop}
    (hk : ∀ (x : List D) (v : List V) (ρ1 : En) (O1 : Av) (H1 : Hp), Step O H O1 H1 → Rel F O1 ρ1 σ H1 → RepL F.w O1 H1 x v → HoldS F W O1 H1 E (f x ρ1) → k v H1) : ta σ H k := by
  refine ha F O ρ σ H k hw R ?_
  cases e : ma ρ with
  | ok x ρ1 =>
    rw [e] at h
    exact fun O1 H1 v st R1 rv => hk x v ρ1 O1 H1 st R1 rv (h.later st)
  | exc x ρ1 =>
    rw [e] at h
    exact fun O1 H1 cls d st R1 xa => h O1 σ H1 cls d st R1 xa
  | stuck =>
    rw [e] at h
    exact h

def mSeq (a b : MS) : MS := fun ρ => match a ρ with
  | .ok .nx ρ1 => b ρ1
  | r => r
def mNext : MS := fun ρ => .ok .nx ρ
def mIfS (t : MT) (a b : MS) : MS := fun ρ => (t ρ).bind fun x ρ1 => if x = true then a ρ1 else b ρ1
def mRet (m : ME) : MS := fun ρ => (m ρ).bind fun x ρ1 => .ok (.rt x) ρ1
def mRetN : MS := fun ρ => .ok (.rt (.non, false)) ρ
/-- return x, x one's own list -/
def mRetO (i : Nat) : MS := fun ρ => match ρ[i]? with
  | some (.own (.lst ds)) => .ok (.rt (.lst ds, true)) (ρ.set i .non)
  | some (.own (.dct ks vs)) => .ok (.rt (.dct ks vs, true)) (ρ.set i .non)
  | _ => .stuck
def mExpr (m : ME) : MS := fun ρ => (m ρ).bind fun _ ρ1 => .ok .nx ρ1
def setV (i : Nat) (d : D) (ρ : En) : Option En := if notIo (ρ[i]?) = true then some (ρ.set i (.val d)) else none
def nxt (o : Option En) : Rs Fl := match o with
  | some ρ => .ok .nx ρ
  | none => .stuck
def mAsg (i : Nat) (m : ME) : MS := fun ρ => (m ρ).bind fun x ρ1 => nxt (setV i x.1 ρ1)
def toMu : Vl → Option Mu
  | (.lst ds, true) => some (.lst ds)
  | (.dct ks vs, true) => some (.dct ks vs)
  | _ => none
def setO (i : Nat) (x : Vl) (ρ : En) : Option En := if notIo (ρ[i]?) = true then (toMu x).map fun m => ρ.set i (.own m) else none
/-- x = e, x one's own list from then on -/
def mAsgO (i : Nat) (m : ME) : MS := fun ρ => (m ρ).bind fun x ρ1 => nxt (setO i x ρ1)
def mDead : MS := fun _ => .stuck
/-- a target: a name, several names -/
abbrev MG := D → En → Option En
def gN (i : Nat) : MG := fun d ρ => setV i d ρ
def gTs : List MG → List D → En → Option En
  | [], [], ρ => some ρ
  | g :: gs, d :: ds, ρ => (g d ρ).bind fun ρ1 => gTs gs ds ρ1
  | _, _, _ => none
def gT (gs : List MG) : MG := fun d ρ => match d with
  | .tup ds => gTs gs ds ρ
  | _ => none
def mAsgG (g : MG) (m : ME) : MS := fun ρ => (m ρ).bind fun x ρ1 => nxt (g x.1 ρ1)

theorem toMu_is {x : Vl} {m m' : Mu} (h : toMu x = some m) (e : m'.is x.1) : x.2 = true ∧ m = m' := by
  obtain ⟨d, b⟩ := x
  cases d <;> cases b <;> simp [toMu] at h <;> subst h <;> cases m' <;> simp [Mu.is] at e ⊢ <;> simp [e]
theorem toMu_fr {x : Vl} {m : Mu} (h : toMu x = some m) : x.2 = true := by
  obtain ⟨d, b⟩ := x
  cases d <;> cases b <;> simp [toMu] at h <;> rfl
section
variable {w : Wd} {W : WX} {X : Cx} {pos pos' : Pos} {a b c e : Expr} {ma mb mc m : ME} {ta tb tc te : TE} {tt uu : TT} {mt mu : MT} {st : Stmt} {rest body : List Stmt} {ms mr : MS} {ts tr : TS}
theorem sims_seq (h1 : SimS w W ts ms) (h2 : SimS w W tr mr) : SimS w W (tSeq ts tr) (mSeq ms mr) := fun F O ρ σ H E hw R hh => by
  refine h1 F O ρ σ H _ hw R ?_
  unfold mSeq at hh
  cases q : ms ρ with
  | ok f ρ1 =>
    rw [q] at hh
    cases f with
    | nx => exact fun O' σ' H' st R' => h2 F O' ρ1 σ' H' E hw R' (hh.later st)
    | rt x => exact hh
    | bk => exact hh
    | ct => exact hh
  | exc x ρ1 => rw [q] at hh; exact hh
  | stuck => rw [q] at hh; exact hh
theorem pms_nil : PMSs X w W [] mNext := ⟨_, pss_nil, fun F O ρ σ H E hw R hh => hh O σ H (Step.refl _ _) R⟩
theorem pms_cons (h1 : PMS X w W st ms) (h2 : PMSs X w W rest mr) : PMSs X w W (st :: rest) (mSeq ms mr) := by
  obtain ⟨t1, p1, s1⟩ := h1
  obtain ⟨t2, p2, s2⟩ := h2
  exact ⟨_, pss_cons p1 p2, sims_seq s1 s2⟩
theorem pms_one (h1 : PMS X w W st ms) : PMSs X w W [st] ms := by
  obtain ⟨t1, p1, s1⟩ := h1
  exact ⟨_, pss_one p1, s1⟩
theorem pms_if (ht : PMT X w W c mt) (ha : PMSs X w W body ms) (hb : PMSs X w W rest mr) : PMS X w W (.If c body rest pos) (mIfS mt ms mr) := by
  obtain ⟨tt, pt, stt⟩ := ht
  obtain ⟨t1, p1, s1⟩ := ha
  obtain ⟨t2, p2, s2⟩ := hb
  refine ⟨_, ps_if pt p1 p2, fun F O ρ σ H E hw R hh => ?_⟩
  refine stt.bindS hw R hh fun x ρ1 O1 H1 st1 R1 h1 => ?_
  cases x with
  | true => exact iteT (s1 F O1 ρ1 σ H1 E hw R1 h1)
  | false => exact iteF (s2 F O1 ρ1 σ H1 E hw R1 h1)
theorem VlAt.ret {F : Fr} {σ : St} {ρ' ρ0 : En} {O0 O' : Av} {H H' : Hp} {v : V} (R : Rel F O0 ρ0 σ H) : ∀ {x : Vl}, VlAt F.w σ H ρ' O' H' v x → RetAt F O' H' v x
  | (d, false), h => h
  | (d, true), ⟨a, m, e1, e2, e3, e4, e5, _⟩ => ⟨a, m, e1, R.freshE e2, e3, e4, e5⟩
theorem pms_ret (he : PM X w W e m) : PMS X w W (.Return (some e) pos) (mRet m) := by
  obtain ⟨te, pe, se⟩ := he
  refine ⟨_, ps_ret pe, fun F O ρ σ H E hw R hh => ?_⟩
  exact se.bindS hw R hh fun x v ρ1 O1 H1 st1 R1 rv h1 => h1 O1 σ H1 v (Step.refl _ _) R1 (VlAt.ret R rv)
theorem pms_retO {x : Str} (i : Nat) (hN : X.N[i]? = some x := by rfl) (hv : Vis X.env.scope x := by first | exact Or.inl rfl | exact Or.inr (Or.inl rfl) | exact Or.inr (Or.inr rfl)) (hd : (x == ("__debug__" : Str)) = false := by decide)
    (hcd : (x == ("__classdict__" : Str)) = false := by decide) : PMS X w W (.Return (some (.Name x pos')) pos) (mRetO i) := by
  refine ⟨_, ps_ret (pv i hN hv hd hcd), fun F O ρ σ H E hw R hh => ?_⟩
  unfold mRetO at hh
  split at hh
  · rename_i ds e
    obtain ⟨a, e1, e2, e3, e4⟩ := R.slot i _ e
    exact ⟨_, e1, hh O σ H _ (Step.refl _ _) R.setN ⟨a, .lst ds, rfl, e3, e2, rfl, e4⟩⟩
  · rename_i ks vs e
    obtain ⟨a, e1, e2, e3, e4⟩ := R.slot i _ e
    exact ⟨_, e1, hh O σ H _ (Step.refl _ _) R.setN ⟨a, .dct ks vs, rfl, e3, e2, rfl, e4⟩⟩
  · exact hh.elim
theorem pms_expr (he : PM X w W e m) (hs : swapsWith e none pos.line X.env = pure false := by rfl) : PMS X w W (.Expr e pos) (mExpr m) := by
  obtain ⟨te, pe, se⟩ := he
  refine ⟨_, ps_expr pe hs, fun F O ρ σ H E hw R hh => ?_⟩
  exact se.bindS hw R hh fun x v ρ1 O1 H1 st1 R1 rv h1 => h1 O1 σ H1 (Step.refl _ _) R1
theorem setV_rel {F : Fr} {O : Av} {ρ ρ' : En} {σ : St} {H : Hp} {i : Nat} {d : D} {v : V} (R : Rel F O ρ σ H) (h : Rep F.w O H d v) (e : setV i d ρ = some ρ') : Rel F O ρ' (σ.set i (some v)) H := by
  unfold setV at e
  split at e
  · rename_i hi
    cases e
    exact R.setV h hi
  · cases e
theorem pms_set {i : Nat} {x : Str} (hN : X.N.Nodup) (hi : X.N[i]? = some x) (hx : Loc X.env.scope x) (he : PM X w W e m) (hs : swapsWith e (some (.Name x pos')) pos.line X.env = pure false := by rfl) (hf : X.fn x = true ∨ X.env.scope.names.lookup x = some .local := by first | exact .inl rfl | exact .inr rfl | assumption) :
    PMS X w W (.Assign [.Name x pos'] e pos) (mAsg i m) := by
  obtain ⟨te, pe, se⟩ := he
  refine ⟨_, ps_set hN hi hx pe hs hf, fun F O ρ σ H E hw R hh => ?_⟩
  refine se.bindS hw R hh fun x v ρ1 O1 H1 st1 R1 rv h1 => ?_
  obtain ⟨O2, s2, R2, r2, s3⟩ := VlAt.release st1 R1 R.doh rv
  show E.nx _ _
  cases q : setV i x.1 ρ1 with
  | none => rw [q] at h1; exact h1.elim
  | some ρ2 =>
    rw [q] at h1
    exact h1 O2 _ H1 s3 (setV_rel R2 r2 q)
theorem setO_rel {F : Fr} {O0 O : Av} {ρ0 ρ ρ' : En} {σ : St} {H0 H : Hp} {i : Nat} {x : Vl} {v : V} (R0 : Rel F O0 ρ0 σ H0) (R : Rel F O ρ σ H) (h : VlAt F.w σ H0 ρ O H v x) (e : setO i x ρ = some ρ') : Rel F O ρ' (σ.set i (some v)) H := by
  unfold setO at e
  split at e
  · rename_i hi
    cases q : toMu x with
    | none => rw [q] at e; cases e
    | some mm =>
      rw [q] at e
      cases e
      unfold VlAt at h
      rw [toMu_fr q] at h
      obtain ⟨a, m', e1, e2, e3, e4, e5, e6⟩ := h
      have z := (toMu_is q e4).2
      subst z
      subst e1
      exact R.setO e5 e3 (R0.freshE e2) e6 hi
  · cases e
theorem pms_setO {i : Nat} {x : Str} (hN : X.N.Nodup) (hi : X.N[i]? = some x) (hx : Loc X.env.scope x) (he : PM X w W e m) (hs : swapsWith e (some (.Name x pos')) pos.line X.env = pure false := by rfl) (hf : X.fn x = true ∨ X.env.scope.names.lookup x = some .local := by first | exact .inl rfl | exact .inr rfl | assumption) :
    PMS X w W (.Assign [.Name x pos'] e pos) (mAsgO i m) := by
  obtain ⟨te, pe, se⟩ := he
  refine ⟨_, ps_set hN hi hx pe hs hf, fun F O ρ σ H E hw R hh => ?_⟩
  refine se.bindS hw R hh fun x v ρ1 O1 H1 st1 R1 rv h1 => ?_
  show E.nx _ _
  cases q : setO i x ρ1 with
  | none => rw [q] at h1; exact h1.elim
  | some ρ2 =>
    rw [q] at h1
    exact h1 O1 _ H1 (Step.refl _ _) (setO_rel R R1 rv q)
theorem pms_dead {st : Stmt} : PMS X w W st mDead := ⟨_, ps_never, fun F O ρ σ H E hw R hh => hh⟩
/-! ### targets -/
/-- the slots outside is stay -/
def Out (js : List Nat) (σ σ1 : St) : Prop := ∀ vs : List Nat, (∀ j ∈ js, j ∈ vs) → wipe σ1 vs = wipe σ vs
def SimG (w : Wd) (g : TG) (m : MG) (js : List Nat) : Prop := ∀ (F : Fr) (O : Av) (ρ ρ1 : En) (σ : St) (H : Hp) (v : V) (d : D) (Q : St → Hp → Prop), F.w = w → Rel F O ρ σ H → Rep F.w O H d v → m d ρ = some ρ1 → (∀ σ1, Rel F O ρ1 σ1 H → Out js σ σ1 → Q σ1 H) → g v σ H Q
def SimGs (w : Wd) (g : TGs) (ms : List MG) (js : List Nat) : Prop := ∀ (F : Fr) (O : Av) (ρ ρ1 : En) (σ : St) (H : Hp) (vs : List V) (ds : List D) (Q : St → Hp → Prop), F.w = w → Rel F O ρ σ H → RepL F.w O H ds vs → gTs ms ds ρ = some ρ1 → (∀ σ1, Rel F O ρ1 σ1 H → Out js σ σ1 → Q σ1 H) → g vs σ H Q
def PMG (X : Cx) (w : Wd) (tg : Expr) (m : MG) (js : List Nat) : Prop := ∃ g, PG X tg g ∧ SimG w g m js
def PMGs (X : Cx) (w : Wd) (tg : List Expr) (m : List MG) (js : List Nat) : Prop := ∃ g, PGs X tg g ∧ SimGs w g m js
theorem wipe_get {σ : St} {vs : List Nat} {j : Nat} : (wipe σ vs)[j]? = if j ∈ vs then (σ[j]?).map fun _ => none else σ[j]? := by
  induction vs with
  | nil => simp [wipe]
  | cons v vs ih =>
    unfold wipe
    by_cases e : v = j
    · subst e
      rw [List.getElem?_set_self', ih]
      cases q : σ[v]? <;> simp [q] <;> split <;> simp_all
    · rw [List.getElem?_set_ne e, ih]
      have : (j ∈ v :: vs) ↔ j ∈ vs := by simp [Ne.symm e]
      simp [this]
theorem out_set {σ : St} {v : Option V} (i : Nat) : Out [i] σ (σ.set i v) := fun vs hv => by
  have hi := hv i (by simp)
  apply List.ext_getElem?
  intro j
  rw [wipe_get, wipe_get]
  by_cases e : i = j
  · subst e
    rw [if_pos hi, if_pos hi, List.getElem?_set_self']
    cases σ[i]? <;> rfl
  · rw [List.getElem?_set_ne e]
theorem pmg_name {i : Nat} {x : Str} (hN : X.N.Nodup) (hi : X.N[i]? = some x) (hx : Loc X.env.scope x) (hf : X.fn x = true ∨ X.env.scope.names.lookup x = some .local := by first | exact .inl rfl | exact .inr rfl | assumption) : PMG X w (.Name x pos) (gN i) [i] :=
  ⟨_, pg_name hN hi hx hf, fun F O ρ ρ1 σ H v d Q hw R h e k => k _ (setV_rel R h e) (out_set i)⟩
theorem pmgs_nil : PMGs X w [] [] [] := ⟨_, pgs_nil, fun F O ρ ρ1 σ H vs ds Q hw R h e k => by
  cases ds with
  | nil =>
    simp only [RepL] at h
    cases e
    exact ⟨h, k σ R fun _ _ => rfl⟩
  | cons d ds => cases e⟩
theorem pmgs_cons {g : MG} {gs : List MG} {js ks : List Nat} {es : List Expr} (h1 : PMG X w e g js) (h2 : PMGs X w es gs ks) (hs : (assignEach (e :: es) X.env).map (·.2) = assign e X.env :: (assignEach es X.env).map (·.2) := by rfl) : PMGs X w (e :: es) (g :: gs) (js ++ ks) := by
  obtain ⟨g1, p1, s1⟩ := h1
  obtain ⟨g2, p2, s2⟩ := h2
  refine ⟨_, pgs_cons p1 p2 hs, fun F O ρ ρ1 σ H vs ds Q hw R h ee k => ?_⟩
  cases ds with
  | nil => cases ee
  | cons d ds =>
    simp only [RepL] at h
    obtain ⟨v, vs', rfl, r1, r2⟩ := h
    have ee : (g d ρ).bind (fun ρ1 => gTs gs ds ρ1) = some ρ1 := ee
    cases q : g d ρ with
    | none => rw [q] at ee; cases ee
    | some ρ2 =>
      rw [q] at ee
      exact ⟨v, vs', rfl, s1 F O ρ ρ2 σ H v d _ hw R r1 q fun σ1 R1 o1 => s2 F O ρ2 ρ1 σ1 H vs' ds Q hw R1 r2 ee fun σ2 R2 o2 => k σ2 R2 fun vs hv => (o2 vs fun j hj => hv j (List.mem_append_right _ hj)).trans (o1 vs fun j hj => hv j (List.mem_append_left _ hj))⟩
theorem sq_of_rep {K : PySem.W.Frag} {O : Av} {H : Hp} {a : Addr} {vs : List V} (h : At O H a (.tup vs) ∨ WrT K a vs) : SqT K H a vs := h.imp (fun q => .inl q.2) id
theorem sl_of_rep {K : PySem.W.Frag} {O : Av} {H : Hp} {a : Addr} {vs : List V} (h : At O H a (.lst vs)) : SqL K H a vs := .inl (.inl h.2)
theorem pmg_tup {es : List Expr} {k : _} {gs : List MG} {js : List Nat} (hK : w.K = X.K) (hc : X.calm = true) (h : PMGs X w es gs js) (hn : (assignEach es X.env).length = gs.length := by rfl) (hst : (assignEach es X.env).findIdx? (·.1) = none := by rfl) : PMG X w (.Tuple es k pos) (gT gs) js := by
  obtain ⟨g, p, s⟩ := h
  refine ⟨_, pg_tup hc p hn hst, fun F O ρ ρ1 σ H v d Q hw R h ee kk => ?_⟩
  cases d with
  | tup ds =>
    simp only [Rep] at h
    obtain ⟨a, vs, rfl, h1, h2⟩ := h
    have hlen : ds.length = gs.length := by
      have key : ∀ (gs : List MG) (ds : List D) (ρ ρ1 : En), gTs gs ds ρ = some ρ1 → ds.length = gs.length := by
        intro gs
        induction gs with
        | nil => intro ds ρ ρ1 e; cases ds with
          | nil => rfl
          | cons _ _ => cases e
        | cons g gs ih => intro ds ρ ρ1 e; cases ds with
          | nil => cases e
          | cons d ds =>
            have e : (g d ρ).bind (fun ρ1 => gTs gs ds ρ1) = some ρ1 := e
            cases q : g d ρ with
            | none => rw [q] at e; cases e
            | some ρ2 => rw [q] at e; simp [ih ds ρ2 ρ1 e]
      exact key gs ds ρ ρ1 ee
    refine ⟨a, vs, rfl, ?_, by rw [h2.length]; exact hlen, s F O ρ ρ1 σ H vs ds Q hw R h2 ee kk⟩
    rw [← hK, ← hw]
    exact sq_of_rep h1
  | _ => cases ee
theorem pms_asgG {g : MG} {js : List Nat} {tg : Expr} (he : PM X w W e m) (hg : PMG X w tg g js) (hs : swapsWithSole [tg] e pos.line X.env = pure false := by rfl) (hsw : swappedStores [tg] e X.env = pure none := by rfl)
    (h1 : (assignEach [tg] X.env).map (·.2) = [assign tg X.env] := by rfl) : PMS X w W (.Assign [tg] e pos) (mAsgG g m) := by
  obtain ⟨te, pe, se⟩ := he
  obtain ⟨tgg, pg, sg⟩ := hg
  refine ⟨_, ps_asg pe pg hs hsw h1, fun F O ρ σ H E hw R hh => ?_⟩
  refine se.bindS hw R hh fun x v ρ1 O1 H1 st1 R1 rv h1 => ?_
  obtain ⟨O2, s2, R2, r2, s3⟩ := VlAt.release st1 R1 R.doh rv
  cases q : g x.1 ρ1 with
  | none => rw [q] at h1; exact h1.elim
  | some ρ2 =>
    rw [q] at h1
    exact sg F O2 ρ1 ρ2 σ H1 v x.1 _ hw R2 r2 q fun σ1 R3 _ => h1 O2 σ1 H1 s3 R3
end
end PM

namespace PM
open PySem L2

/-! ### loops -/
def mLoop (g : MG) (body : MS) : List D → MS
  | [], ρ => .ok .nx ρ
  | d :: ds, ρ => match g d ρ with
    | none => .stuck
    | some ρ1 => match body ρ1 with
      | .ok .nx ρ2 => mLoop g body ds ρ2
      | .ok .ct ρ2 => mLoop g body ds ρ2
      | .ok .bk ρ2 => .ok .nx ρ2
      | r => r
theorem loop_turn {w : Wd} {W : WX} {gg : TG} {g : MG} {js : List Nat} {tb : TS} {body : MS} (sg : SimG w gg g js) (sb : SimS w W tb body) {F : Fr} {O0 O : Av} {ρ : En} {σ : St} {H0 H : Hp} {E : Ends} {d : D} {v : V} {ds : List D} {Nx : St → Hp → Prop} (hw : F.w = w)
    (R : Rel F O ρ σ H) (rd : Rep F.w O H d v) (st0 : Step O0 H0 O H) (hh : HoldS F W O0 H0 E (mLoop g body (d :: ds) ρ))
    (hN : ∀ O' ρ' σ' H', Step O0 H0 O' H' → Rel F O' ρ' σ' H' → HoldS F W O0 H0 E (mLoop g body ds ρ') → Nx σ' H') : gg v σ H fun σ2 H2 => tb { E with nx := Nx, ct := Nx, bk := E.nx } σ2 H2 := by
  unfold mLoop at hh
  cases q : g d ρ with
  | none => rw [q] at hh; exact hh.elim
  | some ρ1 =>
    rw [q] at hh
    refine sg F O ρ ρ1 σ H v d _ hw R rd q fun σ1 R1 _ => ?_
    refine sb F O ρ1 σ1 H _ hw R1 ?_
    cases q2 : body ρ1 with
    | stuck => simp only [q2] at hh; exact hh
    | exc x ρ2 =>
      simp only [q2] at hh
      exact HoldS.later st0 (r := .exc x ρ2) hh
    | ok f ρ2 =>
      simp only [q2] at hh
      cases f with
      | nx => exact fun O' σ' H' st R' => hN O' ρ2 σ' H' (st0.trans st) R' hh
      | ct => exact fun O' σ' H' st R' => hN O' ρ2 σ' H' (st0.trans st) R' hh
      | bk => exact fun O' σ' H' st R' => hh O' σ' H' (st0.trans st) R'
      | rt x => exact fun O' σ' H' v st R' rv => hh O' σ' H' v (st0.trans st) R' rv
theorem RepL.at {w : Wd} {O : Av} {H : Hp} : ∀ {ds : List D} {vs : List V} {i : Nat} {v : V}, RepL w O H ds vs → vs[i]? = some v → ∃ d, ds.drop i = d :: ds.drop (i + 1) ∧ Rep w O H d v
  | [], vs, i, v, h, e => by
    simp only [RepL] at h
    rw [h] at e
    simp at e
  | d :: ds, vs, i, v, h, e => by
    simp only [RepL] at h
    obtain ⟨u, us, rfl, h1, h2⟩ := h
    cases i with
    | zero =>
      have z : u = v := by simpa using e
      subst z
      exact ⟨d, rfl, h1⟩
    | succ i =>
      obtain ⟨d', e', h'⟩ := RepL.at (i := i) h2 (by simpa using e)
      exact ⟨d', e', h'⟩
def rgL (lo : Int) : Nat → List D
  | 0 => []
  | n + 1 => .int lo :: rgL (lo + 1) n
theorem rgL_drop (lo : Int) (n i : Nat) (h : i < n) : (rgL lo n).drop i = .int (lo + i) :: (rgL lo n).drop (i + 1) := by
  induction n generalizing lo i with
  | zero => omega
  | succ n ih =>
    cases i with
    | zero => simp [rgL]
    | succ i =>
      have := ih (lo + 1) i (by omega)
      simp only [rgL, List.drop_succ_cons]
      rw [this]
      congr 2
      omega
theorem rgL_length (lo : Int) (n : Nat) : (rgL lo n).length = n := by
  induction n generalizing lo with
  | zero => rfl
  | succ n ih => simp [rgL, ih]
def rng1 : List D → Option (List D)
  | [.int j] => if -(2 ^ 62) ≤ j ∧ j < 2 ^ 62 then some (rgL 0 j.toNat) else none
  | _ => none
section
variable {w : Wd} {W : WX} {X : Cx} {pos pos' p : Pos} {it tg : Expr} {m : ME} {te : TE} {body : List Stmt} {mb : MS} {g : MG} {js : List Nat} {a b : Expr} {mr : MA}
theorem repl1 {O : Av} {H : Hp} {x : D} {vs : List V} (h : RepL w O H [x] vs) : ∃ v, vs = [v] ∧ Rep w O H x v := by
  simp only [RepL] at h
  obtain ⟨v, vs', e, h1, e2⟩ := h
  rw [e2] at e
  exact ⟨v, e, h1⟩
theorem repl2 {O : Av} {H : Hp} {x y : D} {vs : List V} (h : RepL w O H [x, y] vs) : ∃ v u, vs = [v, u] ∧ Rep w O H x v ∧ Rep w O H y u := by
  simp only [RepL] at h
  obtain ⟨v, vs', e, h1, u, us, e2, h2, e3⟩ := h
  rw [e3] at e2
  rw [e2] at e
  exact ⟨v, u, e, h1, h2⟩
theorem rep_int {O : Av} {H : Hp} {b : Int} {v : V} (h : Rep w O H (.int b) v) : v = .int b := by simpa only [Rep] using h
theorem rep_str {O : Av} {H : Hp} {b : Str} {v : V} (h : Rep w O H (.str b) v) : v = .str b := by simpa only [Rep] using h
/-! ### while -/
def mWhile (t : MT) (body : MS) : Nat → MS
  | 0, _ => .stuck
  | n + 1, ρ => (t ρ).bind fun x ρ1 => if x = true then (match body ρ1 with
      | .ok .nx ρ2 => mWhile t body n ρ2
      | .ok .ct ρ2 => mWhile t body n ρ2
      | .ok .bk ρ2 => .ok .nx ρ2
      | r => r) else .ok .nx ρ1
theorem pms_while (n : Nat) {c : Expr} {mt : MT} (hp : PassesOwn (model X.prog X.w) X.A X.env X.xe) (ht : PMT X w W c mt) (hb : PMSs X w W body mb) : PMS X w W (.While c body [] pos) (mWhile mt mb n) := by
  obtain ⟨tt, pt, stt⟩ := ht
  obtain ⟨tb, pb, sb⟩ := hb
  refine ⟨_, ps_while hp pt pb, fun F O ρ σ H E hw R hh => ?_⟩
  refine ⟨fun k σ' H' => ∃ O' ρ', Rel F O' ρ' σ' H' ∧ HoldS F W O' H' E (mWhile mt mb k ρ'), ⟨n, O, ρ, R, hh⟩, ?_⟩
  rintro k σ' H' ⟨O', ρ', R', hl⟩
  cases k with
  | zero => exact hl.elim
  | succ k =>
    refine stt.bindS hw R' hl fun x ρ1 O1 H1 st1 R1 h1 => ?_
    cases x with
    | false => exact iteF (h1 O1 σ' H1 (Step.refl _ _) R1)
    | true =>
      refine iteT ⟨fun σ2 H2 => ∃ O2 ρ2, Rel F O2 ρ2 σ2 H2 ∧ HoldS F W O2 H2 E (mWhile mt mb k ρ2), fun σ2 H2 q => ⟨k, Nat.lt_succ_self k, q⟩, ?_⟩
      refine sb F O1 ρ1 σ' H1 _ hw R1 ?_
      have h1 : HoldS F W O1 H1 E (match mb ρ1 with
        | .ok .nx ρ2 => mWhile mt mb k ρ2
        | .ok .ct ρ2 => mWhile mt mb k ρ2
        | .ok .bk ρ2 => .ok .nx ρ2
        | r => r) := h1
      cases q2 : mb ρ1 with
      | stuck => simp only [q2] at h1; exact h1
      | exc x ρ2 => simp only [q2] at h1; exact h1
      | ok f ρ2 =>
        simp only [q2] at h1
        cases f with
        | nx => exact fun O2 σ2 H2 st R2 => ⟨O2, ρ2, R2, h1.later st⟩
        | ct => exact fun O2 σ2 H2 st R2 => ⟨O2, ρ2, R2, h1.later st⟩
        | bk => exact h1
        | rt x => exact h1
end
end PM

namespace PM
open PySem L2

section
variable {F : Fr} {O O' : Av} {ρ : En} {σ : St} {H H' : Hp}
theorem Rel.mutG (R : Rel F O ρ σ H) {i : Nat} {s : Sl} {m m' : Mu} {a : Addr} (e : ρ[i]? = some s) (h : s.get = some m) (ea : σ[i]? = some (some (.ref a))) (hk : ∀ b o, b ≠ a → H b = some o → H' b = some o) (st : Step O H O' H') (hO : ∀ b, O b → O' b) (hdm : ∀ b, O' b → H' b ≠ none)
    (h' : MuAt F.w O' H' a m') : Rel F O' (ρ.set i (s.put m')) σ H' := by
  have hmu : s.mu = true := by cases s <;> first | rfl | cases h
  have same : ∀ {c : Addr} {m0 : Mu}, MuAt F.w O H c m0 → c ≠ a → H' c = H c := fun {c m0} q n => by
    cases z : H c with
    | none => exact absurd z q.some
    | some o => exact hk c o n z
  refine ⟨by simp [R.len], fun b q => hO b (R.b0 b q), R.bh, R.ib, hdm, fun b q => st.dom b (R.doh b q), fun b o q n => ?_, fun j t e1 => ?_, fun j k t u e1 e2 m1 m2 q => ?_, R.tab.stepB st hk (R.ntab e h ea)⟩
  · refine hk b o (fun z => ?_) (R.keep b o q n)
    subst z
    have q2 := R.slot i s e
    cases s with
    | non => cases h
    | val d => cases h
    | own m0 =>
      obtain ⟨c, c1, c2, c3, c4⟩ := q2
      rw [ea] at c1
      cases c1
      rw [q] at c3
      cases c3
    | io m0 =>
      obtain ⟨c, c1, c2, c4⟩ := q2
      rw [ea] at c1
      cases c1
      exact n i c2
  · rcases get_set e1 with ⟨a1, a2⟩ | ⟨a1, a2⟩
    · subst a1
      subst a2
      have q2 := R.slot i s e
      cases s with
      | non => cases h
      | val d => cases h
      | own m0 =>
        obtain ⟨c, c1, c2, c3, c4⟩ := q2
        rw [ea] at c1
        cases c1
        exact ⟨a, ea, hO _ c2, c3, h'⟩
      | io m0 =>
        obtain ⟨c, c1, c2, c4⟩ := q2
        rw [ea] at c1
        cases c1
        exact ⟨a, ea, c2, h'⟩
    · have q2 := R.slot j t a2
      cases t with
      | non => trivial
      | val d =>
        obtain ⟨v, c1, c2⟩ := q2
        exact ⟨v, c1, Rep.step st d v c2⟩
      | own m0 =>
        obtain ⟨c, c1, c2, c3, c4⟩ := q2
        refine ⟨c, c1, hO _ c2, c3, c4.step st (same c4 fun z => ?_)⟩
        subst z
        exact a1 (R.dist i j s _ e a2 hmu rfl (ea.trans c1.symm))
      | io m0 =>
        obtain ⟨c, c1, c2, c4⟩ := q2
        refine ⟨c, c1, c2, c4.step st (same c4 fun z => ?_)⟩
        subst z
        exact a1 (R.dist i j s _ e a2 hmu rfl (ea.trans c1.symm))
  · have key : ∀ (j : Nat) (t : Sl), (ρ.set i (s.put m'))[j]? = some t → t.mu = true → ∃ t', ρ[j]? = some t' ∧ t'.mu = true := fun j t e1 m1 => by
      rcases get_set e1 with ⟨a1, a2⟩ | ⟨a1, a2⟩
      · subst a1
        exact ⟨s, e, hmu⟩
      · exact ⟨t, a2, m1⟩
    obtain ⟨t', f1, f2⟩ := key j t e1 m1
    obtain ⟨u', g1, g2⟩ := key k u e2 m2
    exact R.dist j k t' u' f1 g1 f2 g2 q
theorem Apart.put (R : Apart ρ σ a) {i : Nat} {s : Sl} {m' : Mu} (e : ρ[i]? = some s) (h : s.mu = true) : Apart (ρ.set i (s.put m')) σ a := fun j t e1 m1 => by
  rcases get_set e1 with ⟨a1, a2⟩ | ⟨a1, a2⟩
  · subst a1
    exact R i s e h
  · exact R j t a2 m1
end

/-! ### what a def is worth -/
inductive Fs where
  | ret (x : Vl) (m : Option Mu) | exc (x : Xc) (m : Option Mu) | stuck
/-- a def: the list or dict that it is handed to be changed, the first argument (or none); the others -/
abbrev Fn := Option Mu → List D → Fs
def ArgAt (w : Wd) (O : Av) (H : Hp) (om : Option Mu) (ds : List D) (vs : List V) : Prop := match om with
  | none => RepL w O H ds vs
  | some m => ∃ a vs', vs = .ref a :: vs' ∧ O a ∧ MuAt w O H a m ∧ RepL w O H ds vs'
def IoB (om : Option Mu) (vs : List V) : Av := fun a => om.isSome = true ∧ vs.head? = some (.ref a)
def IoAt (w : Wd) (O : Av) (H : Hp) (om : Option Mu) (vs : List V) : Prop := match om with
  | none => True
  | some m => ∃ a, vs.head? = some (.ref a) ∧ MuAt w O H a m
structure Stay (om : Option Mu) (vs : List V) (H H' : Hp) : Prop where
  kept : ∀ a o, ¬ IoB om vs a → H a = some o → H' a = some o
  dom : ∀ a, H a ≠ none → H' a ≠ none
def RetF (w : Wd) (O : Av) (H : Hp) (om' : Option Mu) (vs : List V) (H' : Hp) (v : V) (x : Vl) : Prop := match x.2 with
  | false => Rep w O H' x.1 v ∧ IoAt w O H' om' vs
  | true => ∃ a m, v = .ref a ∧ H a = none ∧ m.is x.1 ∧ MuAt w (ins O a) H' a m ∧ IoAt w (ins O a) H' om' vs
def HoldF (w : Wd) (O : Av) (H : Hp) (om : Option Mu) (vs : List V) (Q : VK) (E : XK) : Fs → Prop
  | .ret x om' => om'.isSome = om.isSome ∧ ∀ H' v, Stay om vs H H' → RetF w O H om' vs H' v x → Q v H'
  | .exc x om' => om'.isSome = om.isSome ∧ ∀ H' cls d, Stay om vs H H' → IoAt w O H' om' vs → XcAt w O H' cls d x → E cls d H'
  | .stuck => False
def spOf (w : Wd) (k : Nat) (f : Fn) : Sp := fun vs H Q E => ∃ (O : Av) (om : Option Mu) (ds : List D), Dm O H ∧ vs.length = k ∧ ArgAt w O H om ds vs ∧ HoldF w O H om vs Q E (f om ds)

/-! ### calls -/
def mCallV (f : Fn) (ma : MA) : ME := fun ρ => (ma ρ).bind fun xs ρ1 => match f none xs with
  | .ret x none => .ok x ρ1
  | _ => .stuck
def muOf (i : Nat) (ρ : En) : Option (Sl × Mu) := (ρ[i]?).bind fun s => s.get.map fun m => (s, m)
def mCallD (f : Fn) (i : Nat) (ma : MA) : ME := fun ρ => match muOf i ρ with
  | none => .stuck
  | some _ => (ma ρ).bind fun xs ρ1 => match muOf i ρ1 with
    | none => .stuck
    | some (s, m) => match f (some m) xs with
      | .ret x (some m') => .ok x (ρ1.set i (s.put m'))
      | _ => .stuck
theorem muOf_some {i : Nat} {ρ : En} {s : Sl} {m : Mu} (h : muOf i ρ = some (s, m)) : ρ[i]? = some s ∧ s.get = some m := by
  unfold muOf at h
  cases e : ρ[i]? with
  | none => rw [e] at h; cases h
  | some t =>
    rw [e] at h
    cases q : t.get with
    | none => rw [show (some t).bind (fun s => s.get.map fun m => (s, m)) = t.get.map fun m => (t, m) from rfl, q] at h; cases h
    | some m' =>
      rw [show (some t).bind (fun s => s.get.map fun m => (s, m)) = t.get.map fun m => (t, m) from rfl, q] at h
      cases h
      exact ⟨rfl, q⟩
theorem mu_of_get {s : Sl} {m : Mu} (h : s.get = some m) : s.mu = true := by cases s <;> first | rfl | cases h
theorem mono_step {O O' : Av} {H : Hp} (h : ∀ a, O' a → O a) : Step O H O' H := ⟨fun a q => .inl (h a q), fun _ _ _ e => e, fun _ e => e⟩
section
variable {w : Wd} {W : WX} {X : Cx} {pos p : Pos} {x : Str} {e : Expr} {es : List Expr} {ta : TA} {ma : MA} {f : Fn} {k : Nat}
theorem sim_callV {E : XK} (ha : SimA w W ta ma) (hn : ∀ (ρ ρ1 : En) (xs : List D), ma ρ = .ok xs ρ1 → xs.length = k) : Sim w W (tCall (spOf w k f) [] E ta) (mCallV f ma) := fun F O ρ σ H Q hw R hh => by
  subst hw
  have hn' : ∀ xs ρ1, ma ρ = .ok xs ρ1 → xs.length = k := fun xs ρ1 e => hn ρ ρ1 xs e
  have key : Hold F W O σ H (RV F σ H) Q ((ma ρ).bind fun xs ρ1 => if xs.length = k then (match f none xs with
  | .ret x none => .ok x ρ1
  | _ => .stuck) else .stuck) := by
    unfold mCallV at hh
    cases q : ma ρ with
    | ok xs ρ1 =>
      rw [q] at hh
      show Hold F W O σ H (RV F σ H) Q (if xs.length = k then _ else _)
      rw [if_pos (hn' xs ρ1 q)]
      exact hh
    | exc x ρ1 => rw [q] at hh; exact hh
    | stuck => rw [q] at hh; exact hh
  refine ha.bind rfl R key fun xs vs ρ1 O1 H1 st1 R1 rs h1 => ?_
  split at h1
  · rename_i hk
    show spOf _ _ _ (vs ++ []) H1 Q E
    rw [List.append_nil]
    refine ⟨O1, none, xs, R1.dom, by rw [rs.length]; exact hk, rs, ?_⟩
    split at h1
    · rename_i z hz
      rw [hz]
      refine ⟨rfl, fun H' v sy rf => ?_⟩
      have g : Grow H1 H' := fun a o e => sy.kept a o (fun q => by cases q.1) e
      obtain ⟨d, b⟩ := z
      cases b with
      | false => exact h1 O1 H' v (st1.trans g.step) (R1.grow g) rf.1
      | true =>
        obtain ⟨a, m, e1, e2, e3, e4, _⟩ := rf
        exact h1 (ins O1 a) H' v (st1.trans (ins_step g e2)) (R1.guard g e2 e4.some) ⟨a, m, e1, st1.none_back e2, .inr rfl, e3, e4, R1.apart e2⟩
    · exact h1.elim
  · exact h1.elim
theorem sim_callD {E : XK} {i : Nat} (ha : SimA w W ta ma) (hn : ∀ (ρ ρ1 : En) (xs : List D), ma ρ = .ok xs ρ1 → xs.length + 1 = k) : Sim w W (tCall (spOf w k f) [] E (tCons (tVar i) ta)) (mCallD f i ma) := fun F O ρ σ H Q hw R hh => by
  subst hw
  unfold mCallD at hh
  cases q0 : muOf i ρ with
  | none => rw [q0] at hh; exact hh.elim
  | some sm =>
    rw [q0] at hh
    obtain ⟨e0, g0⟩ := muOf_some (s := sm.1) (m := sm.2) q0
    obtain ⟨a, ea, oa, _⟩ := R.muAt e0 g0
    refine ⟨.ref a, ea, ?_⟩
    have key : Hold F W O σ H (RV F σ H) Q ((ma ρ).bind fun xs ρ1 => if xs.length + 1 = k then (match muOf i ρ1 with
      | none => .stuck
      | some (s, m) => match f (some m) xs with
        | .ret x (some m') => .ok x (ρ1.set i (s.put m'))
        | _ => .stuck) else .stuck) := by
      cases q : ma ρ with
      | ok xs ρ1 =>
        rw [q] at hh
        show Hold F W O σ H (RV F σ H) Q (if xs.length + 1 = k then _ else _)
        rw [if_pos (hn ρ ρ1 xs q)]
        exact hh
      | exc x ρ1 => rw [q] at hh; exact hh
      | stuck => rw [q] at hh; exact hh
    refine ha.bind rfl R key fun xs vs ρ1 O1 H1 st1 R1 rs h1 => ?_
    split at h1
    · rename_i hk
      split at h1
      · exact h1.elim
      · rename_i s m q1
        obtain ⟨e1, g1⟩ := muOf_some q1
        obtain ⟨a', ea', oa', ma'⟩ := R1.muAt e1 g1
        rw [ea] at ea'
        cases ea'
        show spOf _ _ _ ((.ref a :: vs) ++ []) H1 Q E
        rw [List.append_nil]
        refine ⟨O1, some m, xs, R1.dom, by simp [rs.length, hk], ⟨a, vs, rfl, oa', ma', rs⟩, ?_⟩
        split at h1
        · rename_i z m' hz
          rw [hz]
          refine ⟨rfl, fun H' v sy rf => ?_⟩
          have hk : ∀ b o, b ≠ a → H1 b = some o → H' b = some o := fun b o n e => sy.kept b o (fun q => n (by have := q.2; simp at this; exact this.symm)) e
          obtain ⟨d, b⟩ := z
          cases b with
          | false =>
            obtain ⟨r1, a2, ha2, r2⟩ := rf
            cases (show some (V.ref a) = some (.ref a2) from ha2)
            have st2 : Step O1 H1 O1 H' := ⟨fun _ q => .inl q, fun b o n e => hk b o (fun z => n (by rw [z]; exact oa')) e, sy.dom⟩
            exact h1 O1 H' v (st1.trans st2) (R1.mutG e1 g1 ea hk st2 (fun _ q => q) (fun b q => sy.dom b (R1.dom b q)) r2) r1
          | true =>
            obtain ⟨c, m2, e2, e3, e4, e5, a2, ha2, r2⟩ := rf
            cases (show some (V.ref a) = some (.ref a2) from ha2)
            have st2 : Step O1 H1 (ins O1 c) H' := ⟨fun b q => q.elim .inl fun e => .inr (by rw [e]; exact e3), fun b o n e => hk b o (fun z => n (by rw [z]; exact oa')) e, sy.dom⟩
            refine h1 (ins O1 c) H' v (st1.trans st2) (R1.mutG e1 g1 ea hk st2 (fun _ q => .inl q) (fun b q => q.elim (fun q => sy.dom b (R1.dom b q)) fun z => by rw [z]; exact e5.some) r2) ?_
            exact ⟨c, m2, e2, st1.none_back e3, .inr rfl, e4, e5, (R1.apart e3).put e1 (mu_of_get g1)⟩
        · exact h1.elim
    · exact h1.elim
end
end PM

/-! The layer's promise of a def, for callers under whom no repr is running: repr of a list, a tuple, a dict can be told exactly then. -/
namespace PM
open PySem PySem.Spec PyProof.Rows L2

structure FnG (P : Program) (wo : World) (K : PySem.W.Frag) (mg : Str → Option Value) (base : Heap) (Z : CXT) (k : Nat) (f : Addr) (fd : FuncData) (ps : List Str) (sp : Sp) : Prop where
  len : ∀ vs H Q E, sp vs H Q E → vs.length = ps.length
  run : ∀ (A : Around) (out : List Env) (s : Shared) (H : Hp) (args : Args) (us : List Value) (vs : List V) (Q : VK) (E : XK), A.guards = some [] → Room k A → Env0 P wo K mg base A out s H → BindsTo s fd args (ps.zip us) → Vals vs us → sp vs H Q E →
    codeAny (model P wo) A (.call (.ref f) args) (CR Z out P wo H s Q E) s
section
variable {P : Program} {wo : World} {K : PySem.W.Frag} {mg : Str → Option Value} {base : Heap} {Z : CXT} {k j : Nat} {f : Addr} {fd : FuncData} {ps N : List Str} {sp : Sp}
theorem FnG.mono (F : FnG P wo K mg base Z j f fd ps sp) (h : j ≤ k) : FnG P wo K mg base Z k f fd ps sp := ⟨F.len, fun A out s H args us vs Q E hg hr => F.run A out s H args us vs Q E hg (hr.mono h)⟩
theorem fn_ofG {nm qual : Str} {pr : Arguments} {body : List Stmt} {sco : Scope} {dV kV doc pm cdv ct oc : Value} {an od : Option Addr} {osl : Array (Option Value)}
    (lk : K.lookup f = some ⟨oc, od, .func (PySem.W.fnOf nm qual pr body sco dV kV doc pm an cdv ct), osl⟩) (hcd : PySem.W.codeIn K cdv qual = true) (S : FnScope N ps sco) (len : ∀ vs H Q E, sp vs H Q E → vs.length = ps.length)
    (hbody : ∀ (A : Around) (out : List Env) (s : Shared) (H : Hp) (vs : List V) (Q : VK) (E : XK), A.guards = some [] → Room k (A.deeper (envOfC qual sco s.heap.objs.size f cdv)) → sp vs H Q E →
      ∃ t, PSs (cxOf Z P wo K mg base N qual sco f cdv A out s H E) body t ∧ t { nx := fun _ H' => Q .non H', rt := Q } (L2.start N vs) H) :
    FnG P wo K mg base Z (k + 1) f (PySem.W.fnOf nm qual pr body sco dV kV doc pm an cdv ct) ps sp := by
  refine ⟨len, fun A out s H args us vs Q E hgu hr en hbi rr hsp => ?_⟩
  have hlen := len _ _ _ _ hsp
  have old : ∀ b o, base.get? b = some o → s.heap.get? b = some o := fun b o e => (en.bs b o e).1
  have inK : K.In s.heap := en.mod.kin.keeps old
  have nol : s.heap.NoLimit := en.mod.nolimit.keeps old
  refine codeAny_call_function hr.depth (inK _ _ lk) rfl S.co S.gen rfl (PySem.W.codeRec_of inK hcd) (hbi _ _ _ _ ?_)
  refine wpAny_newFunctionEnv_cells S.kind (fun ⟨n, v⟩ hy => ?_) fun env he s1 x => ?_
  · rcases S.par n (List.of_mem_zip hy).1 with q | q
    · exact Or.inl q
    · exact Or.inr ⟨q, PySem.W.cellsFrom_some _ _ _ (Or.inl q)⟩
  · cases he
    refine ⟨nol.keeps x.toInCall.keep, codeAny_func ?_⟩
    obtain ⟨t, pt, rt⟩ := hbody A out s H vs Q E hgu (hr.deeper _) hsp
    have J0 := inv_start (CX := Z) (cd := cdv) (E := E) S hr.hd en hlen rr x
    refine wpAny_mono (pt.run [] s1 (L2.start N vs) H _ J0 rt) (fun fl s' hs => ?_) fun e s' he => he
    have close : ∀ {τ : L2.St} {H' : Hp} {v : V} {u : Value}, Inv (cxOf Z P wo K mg base N qual sco f cdv A out s H E) [] τ H' s' → RelV v u → Q v H' → CE out P wo H s Q u s' := fun {τ H' v u} J rv q => ⟨v, H', J.os, J.bare, J.base, J.hok, rv, q⟩
    cases fl with
    | ret u =>
      obtain ⟨v, τ, H', J, rv, q⟩ := hs
      exact close J rv q
    | next =>
      obtain ⟨τ, H', J, q⟩ := hs
      exact close (v := V.non) (u := Value.none) J rfl q
    | brk =>
      obtain ⟨_, _, _, q⟩ := hs
      exact q.elim
    | cont =>
      obtain ⟨_, _, _, q⟩ := hs
      exact q.elim
end
section
variable {X : Cx} {Z : CXT} {k : Nat} {f : Addr} {fd : FuncData} {ps : List Str} {sp : Sp} {E : XK} {x : Str} {p pos : Pos} {e : Expr} {es : List Expr} {t : TA}
theorem run_fnG {pins : List (Addr × Obj)} {σ : L2.St} {H : Hp} {s : Shared} {Q : VK} {us : List Value} {vs : List V} (F : FnG X.prog X.w X.K X.mg X.base Z k f fd ps sp) (hgu : X.A.guards = some []) (hr : Room k X.A) (hb : Binds X.K fd ps []) (hx : Passes Z X E)
    (I : Inv X pins σ H s) (r : Vals vs us) (h : sp vs H Q E) : wpAny (model X.prog X.w) X.A (call (.ref f) us) (EP X pins σ Q) X.xe s := by
  have hl : us.length = ps.length := r.length.symm.trans (F.len _ _ _ _ h)
  have bd : BindsTo s fd ⟨us, []⟩ (ps.zip us) := by
    have := hb s us I.kIn (by rw [List.append_nil]; exact hl)
    rw [List.append_nil] at this
    exact this
  refine wpAny_call (codeAny_mono (F.run X.A X.stack s H ⟨us, []⟩ us vs Q E hgu hr I.env0 bd r h) fun res s' hq => ?_)
  rcases res with e | fl
  · exact hx pins σ H s e s' I hq
  · cases fl with
    | ret u => exact I.after hq
    | next => exact hq.elim
    | brk => exact hq.elim
    | cont => exact hq.elim
/-- f(e, ..) -/
theorem pe_callG (F : FnG X.prog X.w X.K X.mg X.base Z k f fd ps sp) (hgu : X.A.guards = some []) (hr : Room k X.A) (hg : Gl X x) (hm : X.mg x = some (.ref f)) (hk : PySem.W.keepIn X.K (.ref f) = true) (hb : Binds X.K fd ps []) (hx : Passes Z X E) (ha : PA X (e :: es) t)
    (hdb : (x == ("__debug__" : Str)) = false := by decide) (he : starEach (e :: es) X.env = (false, eval e X.env) :: starEach es X.env := by rfl) (hpl : (backTo pos (starEach es X.env)).any (·.1) = false := by rfl) :
    PE X (.Call (.Name x p) (e :: es) [] pos) (tCall sp [] E t) := by
  refine ⟨fun pins s σ H Q I hw => wpAny_Call_Name_kw (ld_glob I hg hm ?_ hdb)⟩
  refine PySem.W.callWith_K (h₀ := X.base) I.ok.mod.kin hk (thn (ha.run pos pins s σ H _ I hw) fun us s1 hh => ?_) he hpl
  obtain ⟨vs, H1, I1, r, q⟩ := hh
  have q : sp (vs ++ []) H1 Q E := q
  rw [List.append_nil] at q
  exact ⟨I1.kIn, run_fnG F hgu hr hb hx I1 r q⟩
end
end PM

namespace PM
open PySem PySem.Spec PyProof.Rows L2

/-! ### a def's worth by its body -/
def ioOf (om : Option Mu) (ρ : En) : Option (Option Mu) := match om with
  | none => some none
  | some _ => match (ρ[(0 : Nat)]? : Option Sl) with
    | some (.io m) => some (some m)
    | _ => none
def pre0 : Option Mu → En
  | none => []
  | some m => [.io m]
def en0 (n : Nat) (om : Option Mu) (ds : List D) : En := (pre0 om ++ ds.map Sl.val) ++ List.replicate (n - ((pre0 om).length + ds.length)) .non
def fnSem (n k : Nat) (body : MS) : Fn := fun om ds => if (pre0 om).length + ds.length = k then (match body (en0 n om ds) with
  | .ok (.rt x) ρ => (match ioOf om ρ with
    | some m => .ret x m
    | none => .stuck)
  | .ok .nx ρ => (match ioOf om ρ with
    | some m => .ret (.non, false) m
    | none => .stuck)
  | .exc x ρ => (match ioOf om ρ with
    | some m => .exc x m
    | none => .stuck)
  | _ => .stuck) else .stuck
/-- no error leaves it -/
def noX (f : Fn) : Fn := fun om ds => match f om ds with
  | .ret x m => .ret x m
  | _ => .stuck
theorem RepL.get {w : Wd} {O : Av} {H : Hp} : ∀ {ds : List D} {vs : List V} {i : Nat} {d : D}, RepL w O H ds vs → ds[i]? = some d → ∃ v, vs[i]? = some v ∧ Rep w O H d v
  | [], vs, i, d, h, e => by simp at e
  | d :: ds, vs, i, d', h, e => by
    simp only [RepL] at h
    obtain ⟨u, us, rfl, h1, h2⟩ := h
    cases i with
    | zero =>
      have z : d = d' := by simpa using e
      subst z
      exact ⟨u, rfl, h1⟩
    | succ i =>
      obtain ⟨v, e', h'⟩ := RepL.get (i := i) h2 (by simpa using e)
      exact ⟨v, by simpa using e', h'⟩
theorem start_get {N : List Str} {vs : List V} {i : Nat} {v : V} (e : vs[i]? = some v) : (start N vs)[i]? = some (some v) := by
  unfold L2.start
  rw [List.getElem?_append_left (by rw [List.length_map]; exact lt_of_get e), List.getElem?_map, e]
  rfl
theorem start_len {N : List Str} {vs : List V} (h : vs.length ≤ N.length) : (start N vs).length = N.length := by
  unfold L2.start
  simp
  omega
theorem rep_get {α : Type} {n i : Nat} {x y : α} (h : (List.replicate n x)[i]? = some y) : y = x := by
  rw [List.getElem?_replicate] at h
  split at h
  · cases h; rfl
  · cases h
section
variable {w : Wd} {N : List Str} {vs : List V} {H : Hp} {O : Av} {om : Option Mu} {ds : List D}
theorem pre_len (h : ArgAt w O H om ds vs) : (pre0 om).length + ds.length = vs.length := by
  cases om with
  | none =>
    have z : RepL w O H ds vs := h
    simp [pre0, z.length]
  | some m =>
    obtain ⟨a, vs', rfl, _, _, z⟩ := h
    simp [pre0, z.length]
    omega
theorem pre_get (h : ArgAt w O H om ds vs) {i : Nat} {s : Sl} (e : (pre0 om ++ ds.map Sl.val)[i]? = some s) : ∃ v, vs[i]? = some v ∧ ((∃ d, s = .val d ∧ Rep w O H d v) ∨ ∃ m a, s = .io m ∧ om = some m ∧ i = 0 ∧ v = .ref a ∧ O a ∧ MuAt w O H a m) := by
  cases om with
  | none =>
    have z : RepL w O H ds vs := h
    have e : (ds.map Sl.val)[i]? = some s := by simpa [pre0] using e
    rw [List.getElem?_map] at e
    cases q : ds[i]? with
    | none => rw [q] at e; cases e
    | some d =>
      rw [q] at e
      cases e
      obtain ⟨v, e1, e2⟩ := z.get q
      exact ⟨v, e1, .inl ⟨d, rfl, e2⟩⟩
  | some m =>
    obtain ⟨a, vs', rfl, ha, hm, z⟩ := h
    cases i with
    | zero =>
      have e : Sl.io m = s := by simpa [pre0] using e
      subst e
      exact ⟨.ref a, rfl, .inr ⟨m, a, rfl, rfl, rfl, rfl, ha, hm⟩⟩
    | succ i =>
      have e : (ds.map Sl.val)[i]? = some s := by simpa [pre0] using e
      rw [List.getElem?_map] at e
      cases q : ds[i]? with
      | none => rw [q] at e; cases e
      | some d =>
        rw [q] at e
        cases e
        obtain ⟨v, e1, e2⟩ := z.get q
        exact ⟨v, by simpa using e1, .inl ⟨d, rfl, e2⟩⟩
theorem en0_get (h : ArgAt w O H om ds vs) {n i : Nat} {s : Sl} (e : (en0 n om ds)[i]? = some s) : s = .non ∨ ∃ v, vs[i]? = some v ∧ ((∃ d, s = .val d ∧ Rep w O H d v) ∨ ∃ m a, s = .io m ∧ om = some m ∧ i = 0 ∧ v = .ref a ∧ O a ∧ MuAt w O H a m) := by
  unfold en0 at e
  by_cases hl : i < (pre0 om ++ ds.map Sl.val).length
  · rw [List.getElem?_append_left hl] at e
    exact .inr (pre_get h e)
  · rw [List.getElem?_append_right (by omega)] at e
    exact .inl (rep_get e)
theorem rel_start (hT : w.T = []) (dm : Dm O H) (hn : vs.length ≤ N.length) (h : ArgAt w O H om ds vs) : Rel ⟨w, O, fun i a => i = 0 ∧ IoB om vs a, H⟩ O (en0 N.length om ds) (start N vs) H := by
  refine ⟨?_, fun _ q => q, fun a q => dm a q, fun i a q => ?_, dm, fun _ q => q, fun a o q _ => q, fun i s e => ?_, fun i j s t e1 e2 m1 m2 q => ?_, fun p hp => by rw [hT] at hp; cases hp⟩
  · rw [start_len hn]
    unfold en0
    have := pre_len h
    simp
    omega
  · cases om with
    | none => exact absurd q.2.1 (by simp)
    | some m =>
      obtain ⟨b, vs', rfl, hb, _⟩ := h
      have z := q.2.2
      simp at z
      show O a
      rw [← z]
      exact hb
  · rcases en0_get h e with rfl | ⟨v, e1, ⟨d, rfl, hd⟩ | ⟨m, a, rfl, rfl, rfl, rfl, ha, hm⟩⟩
    · trivial
    · exact ⟨v, start_get e1, hd⟩
    · refine ⟨a, start_get e1, ⟨rfl, rfl, ?_⟩, hm⟩
      cases vs with
      | nil => simp at e1
      | cons b r => simpa using e1
  · have k : ∀ {i : Nat} {s : Sl}, (en0 N.length om ds)[i]? = some s → s.mu = true → i = 0 := fun {i s} e m => by
      rcases en0_get h e with rfl | ⟨v, e1, ⟨d, rfl, hd⟩ | ⟨m, a, rfl, rfl, rfl, rfl, ha, hm⟩⟩
      · cases m
      · cases m
      · rfl
    rw [k e1 m1, k e2 m2]
/-- the contents of what it was handed, at the end -/
theorem io_end {O' : Av} {ρ' : En} {σ' : L2.St} {H' : Hp} {om' : Option Mu} (R : Rel ⟨w, O, fun i a => i = 0 ∧ IoB om vs a, H⟩ O' ρ' σ' H') (e : ioOf om ρ' = some om') : om'.isSome = om.isSome ∧ ∀ O1 : Av, (∀ a, O1 a → O' a) → IoAt w O1 H' om' vs := by
  cases om with
  | none =>
    cases e
    exact ⟨rfl, fun _ _ => trivial⟩
  | some m =>
    unfold ioOf at e
    simp only at e
    split at e
    · rename_i m' q
      cases e
      obtain ⟨a, e1, e2, e3⟩ := R.slot 0 _ q
      exact ⟨rfl, fun O1 h => ⟨a, e2.2.2, e3.step (mono_step h) rfl⟩⟩
    · cases e
theorem stay_end {O' : Av} {ρ' : En} {σ' : L2.St} {H' : Hp} (R : Rel ⟨w, O, fun i a => i = 0 ∧ IoB om vs a, H⟩ O' ρ' σ' H') : Stay om vs H H' := ⟨fun a o n e => R.keep a o e fun i q => n q.2, fun a e => R.doh a e⟩
theorem body_ok (hT : w.T = []) {W : WX} {ts : TS} {m : MS} {k : Nat} {Q : VK} {E : XK} (hs : SimS w W ts m) (hW : ∀ cls d σ H, E cls d H → W cls d σ H) (hk : k ≤ N.length) (h : spOf w k (fnSem N.length k m) vs H Q E) : ts { nx := fun _ H' => Q .non H', rt := Q } (start N vs) H := by
  obtain ⟨O, om, ds, dm, hl, ha, hh⟩ := h
  refine hs _ O (en0 N.length om ds) (start N vs) H _ rfl (rel_start hT dm (by omega) ha) ?_
  unfold fnSem at hh
  rw [if_pos ((pre_len ha).trans hl)] at hh
  cases q : m (en0 N.length om ds) with
  | stuck => rw [q] at hh; exact hh
  | exc x ρ' =>
    rw [q] at hh
    simp only at hh
    intro O' σ' H' cls d st R xa
    cases qi : ioOf om ρ' with
    | none => rw [qi] at hh; exact hh.elim
    | some om' =>
      rw [qi] at hh
      obtain ⟨i1, i2⟩ := io_end R qi
      refine hW _ _ _ _ (hh.2 H' cls d (stay_end R) (i2 O R.b0) ?_)
      cases x with
      | own c fs =>
        cases fs with
        | nil => exact xa
        | cons f fs =>
          obtain ⟨x1, a, vs1, x2, x3, x4, x5⟩ := xa
          exact ⟨x1, a, vs1, x2, fun q => x3 (R.b0 a q), x4, RepL.step (mono_step R.b0) _ _ x5⟩
      | ty n => exact xa
  | ok f ρ' =>
    rw [q] at hh
    cases f with
    | bk => exact hh.elim
    | ct => exact hh.elim
    | nx =>
      simp only at hh
      intro O' σ' H' st R
      cases qi : ioOf om ρ' with
      | none => rw [qi] at hh; exact hh.elim
      | some om' =>
        rw [qi] at hh
        obtain ⟨i1, i2⟩ := io_end R qi
        exact hh.2 H' .non (stay_end R) ⟨by simp only [Rep], i2 O R.b0⟩
    | rt x =>
      simp only at hh
      intro O' σ' H' v st R rv
      cases qi : ioOf om ρ' with
      | none => rw [qi] at hh; exact hh.elim
      | some om' =>
        rw [qi] at hh
        obtain ⟨i1, i2⟩ := io_end R qi
        refine hh.2 H' v (stay_end R) ?_
        obtain ⟨d, b⟩ := x
        cases b with
        | false => exact ⟨Rep.step (mono_step R.b0) _ _ rv, i2 O R.b0⟩
        | true =>
          obtain ⟨a, mm, e1, e2, e3, e4, e5⟩ := rv
          have sub : ∀ b, ins O a b → O' b := fun b q => q.elim (R.b0 b) fun z => by rw [z]; exact e3
          exact ⟨a, mm, e1, e2, e4, e5.step (mono_step sub) rfl, i2 _ sub⟩
end

/-! ### defs -/
def W0 : WX := fun _ _ _ _ => False
/-- a def's promise; g: under callers below whom no repr runs -/
def FnP (g : Bool) (P : Program) (wo : World) (K : PySem.W.Frag) (mg : Str → Option Value) (base : Heap) (j : Nat) (f : Addr) (fd : FuncData) (ps : List Str) (sp : Sp) : Prop := match g with
  | true => FnG P wo K mg base CX0 j f fd ps sp
  | false => FnOk P wo K mg base CX0 j f fd ps sp
/-- where a def of the module stands, and what it is worth -/
def DefOk (g : Bool) (P : Program) (wo : World) (K : PySem.W.Frag) (mg : Str → Option Value) (base : Heap) (w : Wd) (x : Str) (n j : Nat) (f : Fn) : Prop :=
  ∃ a fd ps, ps.length = n ∧ FnP g P wo K mg base j a fd ps (spOf w n f) ∧ mg x = some (.ref a) ∧ PySem.W.keepIn K (.ref a) = true ∧ Binds K fd ps []
section
variable {P : Program} {wo : World} {K : PySem.W.Frag} {mg : Str → Option Value} {base : Heap} {w : Wd}
theorem noX_hold {f : Fn} {vs : List V} {H : Hp} {Q : VK} {E E' : XK} {k : Nat} (h : spOf w k (noX f) vs H Q E) : spOf w k f vs H Q E' := by
  obtain ⟨O, om, ds, dm, hl, ha, hh⟩ := h
  refine ⟨O, om, ds, dm, hl, ha, ?_⟩
  unfold noX at hh
  cases q : f om ds with
  | ret x m => rw [q] at hh; exact hh
  | exc x m => rw [q] at hh; exact hh.elim
  | stuck => rw [q] at hh; exact hh.elim
/-- a def that no error leaves -/
theorem fn_ok0 (hT : w.T = []) (g : Bool) {x qual : Str} {st : Stmt} {f : Addr} {fd : FuncData} {N ps : List Str} {k : Nat} {m : MS} (F : Fun K x qual st f fd) (S : FnScope N ps (defScope st)) (hl : ps.length ≤ N.length)
    (hb : ∀ (cdv : Value) (A : Around) (outer : List Env) (s : Shared) (H : Hp) (E : XK), (g = true → A.guards = some []) → Room k (A.deeper (envOfC qual (defScope st) s.heap.objs.size f cdv)) →
      PMSs (cxOf CX0 P wo K mg base N qual (defScope st) f cdv A outer s H E).nox w W0 (defBody st) m) : FnP g P wo K mg base (k + 1) f fd ps (spOf w ps.length (noX (fnSem N.length ps.length m))) := by
  have len : ∀ vs H Q E, spOf w ps.length (noX (fnSem N.length ps.length m)) vs H Q E → vs.length = ps.length := fun vs H Q E h => by
    obtain ⟨O, om, ds, _, hl, _⟩ := h
    exact hl
  cases g with
  | true =>
    obtain ⟨oc, od, kV, doc, pm, an, cdv, ct, osl, rfl, lk, hcd⟩ := F.ex
    refine fn_ofG lk hcd S len fun A outer s H vs Q E hgu hr h => ?_
    obtain ⟨t, p, sm⟩ := hb cdv A outer s H E (fun _ => hgu) hr
    exact ⟨t, p.nox, body_ok hT (E := fun _ _ _ => False) sm (fun _ _ _ _ z => z) hl (noX_hold h)⟩
  | false =>
    refine F.ok S len fun cdv A outer s H vs Q E hr h => ?_
    obtain ⟨t, p, sm⟩ := hb cdv A outer s H E (fun z => by cases z) hr
    exact ⟨t, p, body_ok hT (E := fun _ _ _ => False) sm (fun _ _ _ _ z => z) hl (noX_hold h)⟩
theorem def_zero (g : Bool) {x : Str} {n : Nat} {f : Fn} {a : Addr} {fd : FuncData} {ps : List Str} (hf : ∀ om ds, f om ds = .stuck) (hl : ps.length = n) (hm : mg x = some (.ref a)) (hk : PySem.W.keepIn K (.ref a) = true) (hb : Binds K fd ps []) : DefOk g P wo K mg base w x n 0 f := by
  have no : ∀ vs H Q E, spOf w n f vs H Q E → False := fun vs H Q E h => by
    obtain ⟨O, om, ds, _, _, _, hh⟩ := h
    rw [hf] at hh
    exact hh
  refine ⟨a, fd, ps, hl, ?_, hm, hk, hb⟩
  cases g with
  | true => exact ⟨fun vs H Q E h => (no _ _ _ _ h).elim, fun A outer s H args us vs Q E hgu hr he hbb hv h => (no _ _ _ _ h).elim⟩
  | false => exact ⟨fun vs H Q E h => (no _ _ _ _ h).elim, fun A outer s H args us vs Q E hr he hbb hv h => (no _ _ _ _ h).elim⟩
theorem DefOk.mono {g : Bool} {x : Str} {n i j : Nat} {f : Fn} (h : DefOk g P wo K mg base w x n i f) (hij : i ≤ j) : DefOk g P wo K mg base w x n j f := by
  obtain ⟨a, fd, ps, h1, h2, h3⟩ := h
  refine ⟨a, fd, ps, h1, ?_, h3⟩
  cases g with
  | true => exact FnG.mono h2 hij
  | false => exact FnOk.mono h2 hij
end
/-! ### calls of defs -/
def Len (ma : MA) (n : Nat) : Prop := ∀ (ρ ρ1 : En) (xs : List D), ma ρ = .ok xs ρ1 → xs.length = n
theorem len_nil : Len mNil 0 := fun ρ ρ1 xs e => by
  cases e
  rfl
theorem len_cons {a : ME} {r : MA} {n : Nat} (h : Len r n) : Len (mCons a r) (n + 1) := fun ρ ρ1 xs e => by
  unfold mCons at e
  cases q : a ρ with
  | stuck => rw [q] at e; cases e
  | exc x ρ2 => rw [q] at e; cases e
  | ok x ρ2 =>
    rw [q] at e
    have e : (r ρ2).bind (fun xs ρ3 => Rs.ok (x.1 :: xs) ρ3) = .ok xs ρ1 := e
    cases q2 : r ρ2 with
    | stuck => rw [q2] at e; cases e
    | exc x ρ2 => rw [q2] at e; cases e
    | ok ys ρ3 =>
      rw [q2] at e
      cases e
      simp [h ρ2 _ ys q2]
section
variable {w : Wd} {W : WX} {X : Cx} {pos p p' : Pos} {x y : Str} {e : Expr} {es : List Expr} {ma : MA} {f : Fn} {n j : Nat}
theorem pm_call {g : Bool} (F : DefOk g X.prog X.w X.K X.mg X.base w x n j f) (hgu : g = true → X.A.guards = some []) (hr : Room j X.A) (hg : Gl X x) (ha : PMA X w W (e :: es) ma) (hn : Len ma n) (hd : (x == ("__debug__" : Str)) = false := by decide) (he : starEach (e :: es) X.env = (false, eval e X.env) :: starEach es X.env := by rfl) (hpl : (backTo pos (starEach es X.env)).any (·.1) = false := by rfl) :
    PM X w W (.Call (.Name x p) (e :: es) [] pos) (mCallV f ma) := by
  obtain ⟨a, fd, ps, hl, F, hm, hk, hb⟩ := F
  obtain ⟨ta, pa, sa⟩ := ha
  cases g with
  | true => exact ⟨_, pe_callG F (hgu rfl) hr hg hm hk hb pass0 pa hd he hpl, sim_callV sa hn⟩
  | false => exact ⟨_, pe_call F hr hg hm hk hb .nil pass0 pa hd he hpl, sim_callV sa hn⟩
/-- f(y, ..), y a list or dict that f may change -/
theorem pm_callD (i : Nat) {g : Bool} (F : DefOk g X.prog X.w X.K X.mg X.base w x (n + 1) j f) (hgu : g = true → X.A.guards = some []) (hr : Room j X.A) (hg : Gl X x) (ha : PMA X w W es ma) (hn : Len ma n) (hN : X.N[i]? = some y := by rfl) (hv : Vis X.env.scope y := by first | exact Or.inl rfl | exact Or.inr (Or.inl rfl) | exact Or.inr (Or.inr rfl)) (hd : (x == ("__debug__" : Str)) = false := by decide)
    (hdy : (y == ("__debug__" : Str)) = false := by decide) (hcd : (y == ("__classdict__" : Str)) = false := by decide) (he : starEach (.Name y p' :: es) X.env = (false, eval (.Name y p') X.env) :: starEach es X.env := by rfl) (hpl : (backTo pos (starEach es X.env)).any (·.1) = false := by rfl) :
    PM X w W (.Call (.Name x p) (.Name y p' :: es) [] pos) (mCallD f i ma) := by
  obtain ⟨a, fd, ps, hl, F, hm, hk, hb⟩ := F
  obtain ⟨ta, pa, sa⟩ := ha
  have sm := sim_callD (w := w) (W := W) (f := f) (E := E0) (i := i) (k := n + 1) sa fun ρ ρ1 xs q => by rw [hn ρ ρ1 xs q]
  cases g with
  | true => exact ⟨_, pe_callG F (hgu rfl) hr hg hm hk hb pass0 (pa_cons (pv i hN hv hdy hcd) pa he) hd he hpl, sm⟩
  | false => exact ⟨_, pe_call F hr hg hm hk hb .nil pass0 (pa_cons (pv i hN hv hdy hcd) pa he) hd he hpl, sm⟩
end
end PM

namespace PM
open PySem L2

def dI (i : Int) : Vl := (.int i, false)
def dB (b : Bool) : Vl := (.bl b, false)
def dS (x : Str) : Vl := (.str x, false)
section
variable {w : Wd} {O : Av} {H : Hp}
theorem Go.int {i : Int} {Q : VK} (g : Go w O H (dI i) Q) : Q (.int i) H := Go.val (d := .int i) g (by simp only [Rep])
theorem Go.bl {i : Bool} {Q : VK} (g : Go w O H (dB i) Q) : Q (.bl i) H := Go.val (d := .bl i) g (by simp only [Rep])
theorem Go.str {i : Str} {Q : VK} (g : Go w O H (dS i) Q) : Q (.str i) H := Go.val (d := .str i) g (by simp only [Rep])
theorem RepL.append : ∀ {xs ys : List D} {vs us : List V}, RepL w O H xs vs → RepL w O H ys us → RepL w O H (xs ++ ys) (vs ++ us)
  | [], ys, vs, us, h, k => by
    simp only [RepL] at h
    subst h
    exact k
  | x :: xs, ys, vs, us, h, k => by
    simp only [RepL] at h
    obtain ⟨v, vs', rfl, h1, h2⟩ := h
    show RepL w O H (x :: (xs ++ ys)) (v :: (vs' ++ us))
    simp only [RepL]
    exact ⟨v, _, rfl, h1, RepL.append h2 k⟩
theorem RepL.nil_iff {xs : List D} {vs : List V} (h : RepL w O H xs vs) : vs = [] ↔ xs = [] := by
  have := h.length
  constructor
  · intro e; subst e; exact List.length_eq_zero_iff.mp this.symm
  · intro e; subst e; exact List.length_eq_zero_iff.mp this
end

/-! ### numbers -/
def int2 (g : Int → Int → Vl) : D → D → Option Vl
  | .int i, .int j => some (g i j)
  | _, _ => none
def int2c (C : Int → Int → Bool) (g : Int → Int → Vl) : D → D → Option Vl
  | .int i, .int j => if C i j = true then some (g i j) else none
  | _, _ => none
theorem int2_some {g : Int → Int → Vl} {x y : D} {z : Vl} (h : int2 g x y = some z) : ∃ i j, x = .int i ∧ y = .int j ∧ z = g i j := by
  unfold int2 at h
  split at h
  · cases h; exact ⟨_, _, rfl, rfl, rfl⟩
  · cases h
theorem int2c_some {C : Int → Int → Bool} {g : Int → Int → Vl} {x y : D} {z : Vl} (h : int2c C g x y = some z) : ∃ i j, x = .int i ∧ y = .int j ∧ C i j = true ∧ z = g i j := by
  unfold int2c at h
  split at h
  · split at h
    · cases h; exact ⟨_, _, rfl, rfl, by assumption, rfl⟩
    · cases h
  · cases h
section
variable {w : Wd}
theorem o2_intI (g : Int → Int → Int) : Op2 w (rI0 fun i j => .int (g i j)) (int2 fun i j => dI (g i j)) := fun O H x y z vx vy Q dm e hx hy k => by
  obtain ⟨i, j, rfl, rfl, rfl⟩ := int2_some e
  exact ⟨i, j, rep_int hx, rep_int hy, k.int⟩
theorem o2_intB (g : Int → Int → Bool) : Op2 w (rI0 fun i j => .bl (g i j)) (int2 fun i j => dB (g i j)) := fun O H x y z vx vy Q dm e hx hy k => by
  obtain ⟨i, j, rfl, rfl, rfl⟩ := int2_some e
  exact ⟨i, j, rep_int hx, rep_int hy, k.bl⟩
theorem o2_intC {C : Int → Int → Prop} {c : Int → Int → Bool} (g : Int → Int → Int) (hc : ∀ i j, c i j = true → C i j) : Op2 w (rI C fun i j => .int (g i j)) (int2c c fun i j => dI (g i j)) := fun O H x y z vx vy Q dm e hx hy k => by
  obtain ⟨i, j, rfl, rfl, h, rfl⟩ := int2c_some e
  exact ⟨i, j, rep_int hx, rep_int hy, hc i j h, k.int⟩
end
def subD : D → D → Option Vl := int2 fun i j => dI (i - j)
def mulC (i j : Int) : Bool := decide (i.natAbs.log2 + j.natAbs.log2 < 1000000)
def mulD : D → D → Option Vl := int2c mulC fun i j => dI (i * j)
def modC (_ j : Int) : Bool := decide (0 < j)
def modD : D → D → Option Vl := int2c modC fun i j => dI (i % j)
def divC (_ j : Int) : Bool := decide (0 < j ∧ j.natAbs.log2 < 9000)
def divD : D → D → Option Vl := int2c divC fun i j => dI (i / j)
def powC (i j : Int) : Bool := decide (0 ≤ j ∧ j ≤ 1000000 ∧ i.natAbs < 2 ^ 64)
def powD : D → D → Option Vl := int2c powC fun i j => dI (i ^ j.toNat)
def ltI : D → D → Option Vl := int2 fun i j => dB (decide (i < j))
def leI : D → D → Option Vl := int2 fun i j => dB (decide (i ≤ j))
def gtI : D → D → Option Vl := int2 fun i j => dB (decide (j < i))
section
variable {w : Wd} {W : WX} {X : Cx} {pos : Pos} {a b : Expr} {ma mb : ME}
theorem pm_sub (ha : PM X w W a ma) (hb : PM X w W b mb) : PM X w W (.BinOp a .Sub b pos) (mOp2 subD ma mb) := pm_bin op_sub (o2_intI fun i j => i - j) ha hb
theorem pm_mul (ha : PM X w W a ma) (hb : PM X w W b mb) : PM X w W (.BinOp a .Mult b pos) (mOp2 mulD ma mb) := pm_bin op_mulW (o2_intC (c := mulC) (fun i j => i * j) fun i j h => by unfold mulC at h; unfold CMulW; exact of_decide_eq_true h) ha hb
theorem pm_mod (ha : PM X w W a ma) (hb : PM X w W b mb) : PM X w W (.BinOp a .Mod b pos) (mOp2 modD ma mb) := pm_bin op_mod (o2_intC (c := modC) (fun i j => i % j) fun i j h => by unfold modC at h; exact of_decide_eq_true h) ha hb
theorem pm_div (ha : PM X w W a ma) (hb : PM X w W b mb) : PM X w W (.BinOp a .FloorDiv b pos) (mOp2 divD ma mb) := pm_bin op_fdivW (o2_intC (c := divC) (fun i j => i / j) fun i j h => by unfold divC at h; unfold CDivW; exact of_decide_eq_true h) ha hb
theorem pm_pow (ha : PM X w W a ma) (hb : PM X w W b mb) : PM X w W (.BinOp a .Pow b pos) (mOp2 powD ma mb) := pm_bin op_pow (o2_intC (c := powC) (fun i j => i ^ j.toNat) fun i j h => by unfold powC at h; unfold CPow; exact of_decide_eq_true h) ha hb
theorem pm_lt (ha : PM X w W a ma) (hb : PM X w W b mb) : PM X w W (.Compare a [.Lt] [b] pos) (mOp2 ltI ma mb) := pm_cmp op_lt (o2_intB fun i j => decide (i < j)) ha hb (nomark _)
theorem pmt_lt (ha : PM X w W a ma) (hb : PM X w W b mb) : PMT X w W (.Compare a [.Lt] [b] pos) (mTest (mOp2 ltI ma mb)) := pmt_cmp op_lt (o2_intB fun i j => decide (i < j)) ha hb (nomark _)
theorem pmt_gt (ha : PM X w W a ma) (hb : PM X w W b mb) : PMT X w W (.Compare a [.Gt] [b] pos) (mTest (mOp2 gtI ma mb)) := pmt_cmp op_gt (o2_intB fun i j => decide (j < i)) ha hb (nomark _)
end

/-! ### + -/
def addD : D → D → Option Vl
  | .int i, .int j => some (dI (i + j))
  | .str a, .str b => if a.length + b.length ≤ sizeLine then some (dS (a ++ b)) else none
  | .tup a, .tup b => if a.length + b.length ≤ sizeLine then some (.tup (a ++ b), false) else none
  | .lst a, .lst b => if a.length + b.length ≤ sizeLine then some (.lst (a ++ b), true) else none
  | _, _ => none
def rAddA (K : PySem.W.Frag) : R2 := fun x y H Q => (rI0 (fun i j => .int (i + j))) x y H Q ∨ (∃ i j, x = .str i ∧ y = .str j ∧ i.length + j.length ≤ sizeLine ∧ Q (.str (i ++ j)) H) ∨ rCatA K x y H Q ∨ rCat x y H Q
section
variable {w : Wd} {W : WX} {X : Cx} {pos : Pos} {a b : Expr} {ma mb : ME}
theorem op_addA : OpR X (binaryOp .Add) (rAddA X.K) := op_add.or (op_add_str.or (op_catA.or op_cat))
theorem o2_add : Op2 w (rAddA w.K) addD := fun O H x y z vx vy Q dm e hx hy k => by
  unfold addD at e
  split at e
  · cases e
    exact .inl ⟨_, _, rep_int hx, rep_int hy, k.int⟩
  · split at e
    · cases e
      exact .inr (.inl ⟨_, _, rep_str hx, rep_str hy, by assumption, k.str⟩)
    · cases e
  · split at e
    · rename_i hz
      cases e
      simp only [Rep] at hx hy
      obtain ⟨p, vs, rfl, h1, h2⟩ := hx
      obtain ⟨q, us, rfl, h3, h4⟩ := hy
      refine .inr (.inr (.inl ⟨p, q, vs, us, rfl, rfl, sq_of_rep h1, sq_of_rep h3, by rw [h2.length, h4.length]; exact hz, fun z => ?_, fun z1 z => ?_, fun z1 z2 r hr => ?_⟩))
      · have z' := h2.nil_iff.mp z
        subst z'
        exact k.val (by simp only [Rep, List.nil_append]; exact ⟨q, us, rfl, h3, h4⟩)
      · have z' := h4.nil_iff.mp z
        subst z'
        exact k.val (by simp only [Rep, List.append_nil]; exact ⟨p, vs, rfl, h1, h2⟩)
      · exact k.newT dm (h2.append h4) hr
    · cases e
  · split at e
    · rename_i hz
      cases e
      simp only [Rep] at hx hy
      obtain ⟨p, vs, rfl, h1, h2⟩ := hx
      obtain ⟨q, us, rfl, h3, h4⟩ := hy
      exact .inr (.inr (.inr ⟨p, q, vs, us, rfl, rfl, h1.2, h3.2, by rw [h2.length, h4.length]; exact hz, fun r hr => k.newL (h2.append h4) hr⟩))
    · cases e
  · cases e
theorem pm_add (hK : w.K = X.K) (ha : PM X w W a ma) (hb : PM X w W b mb) : PM X w W (.BinOp a .Add b pos) (mOp2 addD ma mb) := pm_bin op_addA (hK ▸ o2_add) ha hb
end

/-! ### ==, != of data; repr -/
mutual
def toPy : D → Option PyData
  | .non => some .none
  | .bl b => some (.bool b)
  | .int i => some (.int i)
  | .str x => some (.str x)
  | .tup ds => (toPyL ds).map .tuple
  | .lst ds => (toPyL ds).map .list
  | .scr ds => (toPyL ds).map .list
  | .dct _ _ => none
  | .obj _ _ => none
  | .cls _ => none
  | .exn _ _ _ => none
  | .set _ => none
  | .dkf _ _ => none
  | .dkt _ _ => none
def toPyL : List D → Option (List PyData)
  | [] => some []
  | d :: ds => (toPy d).bind fun p => (toPyL ds).map fun ps => p :: ps
end
section
variable {w : Wd} {O : Av} {H : Hp}
mutual
theorem dp_of : ∀ (d : D) (v : V) (p : PyData), Rep w O H d v → toPy d = some p → Dp w.K H v p
  | .non, v, p, h, e => by
    simp only [Rep] at h
    simp only [toPy] at e
    cases e; subst h; exact .non
  | .bl b, v, p, h, e => by
    simp only [Rep] at h
    simp only [toPy] at e
    cases e; subst h; exact .bl b
  | .int b, v, p, h, e => by
    simp only [Rep] at h
    simp only [toPy] at e
    cases e; subst h; exact .int b
  | .str b, v, p, h, e => by
    simp only [Rep] at h
    simp only [toPy] at e
    cases e; subst h; exact .str b
  | .tup ds, v, p, h, e => by
    simp only [Rep] at h
    simp only [toPy] at e
    obtain ⟨a, vs, rfl, h1, h2⟩ := h
    cases q : toPyL ds with
    | none => rw [q] at e; cases e
    | some ps =>
      rw [q] at e
      cases e
      exact .tup (sq_of_rep h1) (dpl_of ds vs ps h2 q)
  | .lst ds, v, p, h, e => by
    simp only [Rep] at h
    simp only [toPy] at e
    obtain ⟨a, vs, rfl, h1, h2⟩ := h
    cases q : toPyL ds with
    | none => rw [q] at e; cases e
    | some ps =>
      rw [q] at e
      cases e
      exact .lst (sl_of_rep h1) (dpl_of ds vs ps h2 q)
  | .scr ds, v, p, h, e => by
    simp only [Rep] at h
    simp only [toPy] at e
    obtain ⟨a, vs, rfl, h1, h2⟩ := h
    cases q : toPyL ds with
    | none => rw [q] at e; cases e
    | some ps =>
      rw [q] at e
      cases e
      exact .lst (h1.imp (fun ⟨o, z⟩ => .inr ⟨o, z.2⟩) id) (dpl_of ds vs ps h2 q)
  | .exn _ _ _, v, p, h, e => by simp only [toPy] at e; cases e
  | .set _, v, p, h, e => by simp only [toPy] at e; cases e
  | .dkf _ _, v, p, h, e => by simp only [toPy] at e; cases e
  | .dct _ _, v, p, h, e => by simp only [toPy] at e; cases e
  | .dkt _ _, v, p, h, e => by simp only [toPy] at e; cases e
  | .obj _ _, v, p, h, e => by simp only [toPy] at e; cases e
  | .cls _, v, p, h, e => by simp only [toPy] at e; cases e
theorem dpl_of : ∀ (ds : List D) (vs : List V) (ps : List PyData), RepL w O H ds vs → toPyL ds = some ps → DpAll w.K H vs ps
  | [], vs, ps, h, e => by
    simp only [RepL] at h
    simp only [toPyL] at e
    cases e; subst h; exact .nil
  | d :: ds, vs, ps, h, e => by
    simp only [RepL] at h
    simp only [toPyL] at e
    obtain ⟨v, vs', rfl, h1, h2⟩ := h
    cases q : toPy d with
    | none => rw [q] at e; cases e
    | some p =>
      rw [q] at e
      cases q2 : toPyL ds with
      | none => rw [q2] at e; cases e
      | some ps' =>
        rw [q2] at e
        cases e
        exact .cons (dp_of d v p h1 q) (dpl_of ds vs' ps' h2 q2)
end
end
def pyOk (x : D) : Option PyData := (toPy x).bind fun p => if SeqAt.shaped p = true then some p else none
theorem pyOk_some {x : D} {p : PyData} (h : pyOk x = some p) : toPy x = some p ∧ SeqAt.shaped p = true := by
  unfold pyOk at h
  cases q : toPy x with
  | none => rw [q] at h; cases h
  | some p' =>
    rw [q] at h
    have h : (if SeqAt.shaped p' = true then some p' else none) = some p := h
    split at h
    · cases h; exact ⟨rfl, by assumption⟩
    · cases h
def eqD (x y : D) : Option Vl := (pyOk x).bind fun p => (pyOk y).map fun q => dB (PyData.eqv p q)
def neD (x y : D) : Option Vl := (pyOk x).bind fun p => (pyOk y).map fun q => dB (!PyData.eqv p q)
section
variable {w : Wd} {W : WX} {X : Cx} {pos : Pos} {a b : Expr} {ma mb : ME}
theorem o2_eqD : Op2 w (rEqD w.K) eqD := fun O H x y z vx vy Q dm e hx hy k => by
  unfold eqD at e
  cases q1 : pyOk x with
  | none => rw [q1] at e; cases e
  | some p =>
    rw [q1] at e
    cases q2 : pyOk y with
    | none => rw [q2] at e; cases e
    | some q =>
      rw [q2] at e
      cases e
      obtain ⟨a1, a2⟩ := pyOk_some q1
      obtain ⟨b1, b2⟩ := pyOk_some q2
      exact ⟨p, q, dp_of x vx p hx a1, dp_of y vy q hy b1, a2, b2, k.bl⟩
theorem o2_neD : Op2 w (rNeD w.K) neD := fun O H x y z vx vy Q dm e hx hy k => by
  unfold neD at e
  cases q1 : pyOk x with
  | none => rw [q1] at e; cases e
  | some p =>
    rw [q1] at e
    cases q2 : pyOk y with
    | none => rw [q2] at e; cases e
    | some q =>
      rw [q2] at e
      cases e
      obtain ⟨a1, a2⟩ := pyOk_some q1
      obtain ⟨b1, b2⟩ := pyOk_some q2
      exact ⟨p, q, dp_of x vx p hx a1, dp_of y vy q hy b1, a2, b2, k.bl⟩
theorem pm_eq {k : Nat} (hK : w.K = X.K) (hr : Room k X.A) (ha : PM X w W a ma) (hb : PM X w W b mb) : PM X w W (.Compare a [.Eq] [b] pos) (mOp2 eqD ma mb) := pm_cmp (op_eqD hr.units) (hK ▸ o2_eqD) ha hb (nomark _)
theorem pm_ne {k : Nat} (hK : w.K = X.K) (hr : Room k X.A) (ha : PM X w W a ma) (hb : PM X w W b mb) : PM X w W (.Compare a [.NotEq] [b] pos) (mOp2 neD ma mb) := pm_cmp (op_neD hr.units) (hK ▸ o2_neD) ha hb (nomark _)
theorem pmt_eq {k : Nat} (hK : w.K = X.K) (hr : Room k X.A) (ha : PM X w W a ma) (hb : PM X w W b mb) : PMT X w W (.Compare a [.Eq] [b] pos) (mTest (mOp2 eqD ma mb)) := pmt_cmp (op_eqD hr.units) (hK ▸ o2_eqD) ha hb (nomark _)
theorem pmt_ne {k : Nat} (hK : w.K = X.K) (hr : Room k X.A) (ha : PM X w W a ma) (hb : PM X w W b mb) : PMT X w W (.Compare a [.NotEq] [b] pos) (mTest (mOp2 neD ma mb)) := pmt_cmp (op_neD hr.units) (hK ▸ o2_neD) ha hb (nomark _)
end
def one1 (f : D → Option Vl) : List D → Option Vl
  | [x] => f x
  | _ => none
theorem one1_some {f : D → Option Vl} {xs : List D} {z : Vl} (h : one1 f xs = some z) : ∃ x, xs = [x] ∧ f x = some z := by
  unfold one1 at h
  split at h
  · exact ⟨_, rfl, h⟩
  · cases h
def two1 (f : D → D → Option Vl) : List D → Option Vl
  | [x, y] => f x y
  | _ => none
theorem two1_some {f : D → D → Option Vl} {xs : List D} {z : Vl} (h : two1 f xs = some z) : ∃ x y, xs = [x, y] ∧ f x y = some z := by
  unfold two1 at h
  split at h
  · exact ⟨_, _, rfl, h⟩
  · cases h
section
variable {w : Wd} {W : WX} {X : Cx} {pos p : Pos} {a b : Expr} {ma mb : ME} {mr : MA} {e : Expr} {es : List Expr}
/-! ### len, int, abs, max, min, tuple, list -/
def lenD : D → Option Vl
  | .str x => if x.length ≤ sizeLine then some (dI x.length) else none
  | .lst ds => some (dI ds.length)
  | .tup ds => some (dI ds.length)
  | .scr ds => some (dI ds.length)
  | _ => none
theorem oN_len : OpN w (fun xs H Q => ∃ x n, xs = [x] ∧ LenV w.K x H n ∧ Q (.int n) H) (one1 lenD) := fun O H xs z vs Q dm e rs k => by
  have ez := e
  clear e
  obtain ⟨x, rfl, e⟩ := one1_some ez
  clear ez
  obtain ⟨v, rfl, hv⟩ := repl1 rs
  unfold lenD at e
  split at e
  · split at e
    · cases e
      rw [rep_str hv]
      exact ⟨_, _, rfl, ⟨by assumption, rfl⟩, k.int⟩
    · cases e
  · cases e
    simp only [Rep] at hv
    obtain ⟨a, vs, rfl, h1, h2⟩ := hv
    exact ⟨_, vs.length, rfl, .inl ⟨vs, sl_of_rep h1, rfl⟩, by rw [h2.length]; exact k.int⟩
  · cases e
    simp only [Rep] at hv
    obtain ⟨a, vs, rfl, h1, h2⟩ := hv
    exact ⟨_, vs.length, rfl, .inr ⟨vs, sq_of_rep h1, rfl⟩, by rw [h2.length]; exact k.int⟩
  · cases e
    simp only [Rep] at hv
    obtain ⟨a, vs, rfl, h1, h2⟩ := hv
    exact ⟨_, vs.length, rfl, .inl ⟨vs, h1.imp (fun ⟨o, z⟩ => .inr ⟨o, z.2⟩) id, rfl⟩, by rw [h2.length]; exact k.int⟩
  · cases e
theorem pm_len (hK : w.K = X.K) (hg : Gl X "len") (hm : X.mg "len" = none) (ha : PMA X w W [e] mr) (he : starEach [e] X.env = (false, eval e X.env) :: starEach [] X.env := by rfl) : PM X w W (.Call (.Name "len" p) [e] [] pos) (mCall (one1 lenD) mr) :=
  pm_callB call_len (hK ▸ oN_len) hg hm PySem.boot_len ha (by decide) (by decide) he
def intD : D → Option Vl
  | .int i => some (dI i)
  | .bl b => some (dI (if b then 1 else 0))
  | _ => none
theorem pm_int1 (hg : Gl X "int") (hm : X.mg "int" = none) (ha : PMA X w W [e] mr) (he : starEach [e] X.env = (false, eval e X.env) :: starEach [] X.env := by rfl) : PM X w W (.Call (.Name "int" p) [e] [] pos) (mCall (one1 intD) mr) :=
  pm_callTy call_int1 (fun O H xs z vs Q dm e rs k => by
    obtain ⟨x, rfl, ez⟩ := one1_some e
    clear e
    obtain ⟨v, rfl, hv⟩ := repl1 rs
    unfold intD at ez
    split at ez
    · cases ez
      rw [rep_int hv]
      exact .inl ⟨_, rfl, k.int⟩
    · cases ez
      rw [rep_bl hv]
      exact .inr ⟨_, rfl, k.int⟩
    · cases ez) hg hm (by decide +kernel) ha (by decide) (by decide) he
def absD : D → Option Vl
  | .int i => some (dI (if i < 0 then -i else i))
  | _ => none
theorem pm_abs (hg : Gl X "abs") (hm : X.mg "abs" = none) (ha : PMA X w W [e] mr) (he : starEach [e] X.env = (false, eval e X.env) :: starEach [] X.env := by rfl) : PM X w W (.Call (.Name "abs" p) [e] [] pos) (mCall (one1 absD) mr) :=
  pm_callB call_abs (fun O H xs z vs Q dm e rs k => by
    obtain ⟨x, rfl, ez⟩ := one1_some e
    clear e
    obtain ⟨v, rfl, hv⟩ := repl1 rs
    unfold absD at ez
    split at ez
    · cases ez
      rw [rep_int hv]
      exact ⟨_, rfl, k.int⟩
    · cases ez) hg hm (by decide +kernel) ha (by decide) (by decide) he
def maxD : D → D → Option Vl := int2 fun i j => dI (if j > i then j else i)
def minD : D → D → Option Vl := int2 fun i j => dI (if j < i then j else i)
theorem pm_max (hc : X.calm = true) (hg : Gl X "max") (hm : X.mg "max" = none) (ha : PMA X w W [a, b] mr) (he : starEach [a, b] X.env = (false, eval a X.env) :: starEach [b] X.env := by rfl) (hpl : (backTo pos (starEach [b] X.env)).any (·.1) = false := by rfl) : PM X w W (.Call (.Name "max" p) [a, b] [] pos) (mCall (two1 maxD) mr) :=
  pm_callB (call_max2 hc) (fun O H xs z vs Q dm e rs k => by
    obtain ⟨x, y, rfl, e⟩ := two1_some e
    obtain ⟨v, u, rfl, hv, hu⟩ := repl2 rs
    obtain ⟨i, j, rfl, rfl, rfl⟩ := int2_some e
    rw [rep_int hv, rep_int hu]
    exact ⟨i, j, rfl, k.int⟩) hg hm (by decide +kernel) ha (by decide) (by decide) he hpl
theorem pm_min (hc : X.calm = true) (hg : Gl X "min") (hm : X.mg "min" = none) (ha : PMA X w W [a, b] mr) (he : starEach [a, b] X.env = (false, eval a X.env) :: starEach [b] X.env := by rfl) (hpl : (backTo pos (starEach [b] X.env)).any (·.1) = false := by rfl) : PM X w W (.Call (.Name "min" p) [a, b] [] pos) (mCall (two1 minD) mr) :=
  pm_callB (call_min2 hc) (fun O H xs z vs Q dm e rs k => by
    obtain ⟨x, y, rfl, e⟩ := two1_some e
    obtain ⟨v, u, rfl, hv, hu⟩ := repl2 rs
    obtain ⟨i, j, rfl, rfl, rfl⟩ := int2_some e
    rw [rep_int hv, rep_int hu]
    exact ⟨i, j, rfl, k.int⟩) hg hm (by decide +kernel) ha (by decide) (by decide) he hpl
def tupD : D → Option Vl
  | .lst ds => some (.tup ds, false)
  | .tup ds => some (.tup ds, false)
  | _ => none
theorem pm_tuple (hK : w.K = X.K) (hg : Gl X "tuple") (hm : X.mg "tuple" = none) (ha : PMA X w W [e] mr) (he : starEach [e] X.env = (false, eval e X.env) :: starEach [] X.env := by rfl) : PM X w W (.Call (.Name "tuple" p) [e] [] pos) (mCall (one1 tupD) mr) :=
  pm_callTy call_tuple_of (fun O H xs z vs Q dm e rs k => by
    obtain ⟨x, rfl, ez⟩ := one1_some e
    clear e
    obtain ⟨v, rfl, hv⟩ := repl1 rs
    unfold tupD at ez
    split at ez
    · cases ez
      simp only [Rep] at hv
      obtain ⟨a, vs, rfl, h1, h2⟩ := hv
      exact ⟨a, vs, rfl, .inl ⟨hK ▸ sl_of_rep h1, fun l hl => k.newT dm h2 hl⟩⟩
    · cases ez
      have hv' := hv
      simp only [Rep] at hv
      obtain ⟨a, vs, rfl, h1, h2⟩ := hv
      exact ⟨a, vs, rfl, .inr ⟨hK ▸ sq_of_rep h1, k.val hv'⟩⟩
    · cases ez) hg hm (by decide +kernel) ha (by decide) (by decide) he
def lstD : D → Option Vl
  | .lst ds => some (.lst ds, true)
  | .tup ds => some (.lst ds, true)
  | _ => none
theorem pm_list (hK : w.K = X.K) (hg : Gl X "list") (hm : X.mg "list" = none) (ha : PMA X w W [e] mr) (he : starEach [e] X.env = (false, eval e X.env) :: starEach [] X.env := by rfl) : PM X w W (.Call (.Name "list" p) [e] [] pos) (mCall (one1 lstD) mr) :=
  pm_callTy call_list_of (fun O H xs z vs Q dm e rs k => by
    obtain ⟨x, rfl, ez⟩ := one1_some e
    clear e
    obtain ⟨v, rfl, hv⟩ := repl1 rs
    unfold lstD at ez
    split at ez
    · cases ez
      simp only [Rep] at hv
      obtain ⟨a, vs, rfl, h1, h2⟩ := hv
      exact ⟨a, vs, rfl, .inl (hK ▸ sl_of_rep h1), fun l hl => k.newL h2 hl⟩
    · cases ez
      simp only [Rep] at hv
      obtain ⟨a, vs, rfl, h1, h2⟩ := hv
      exact ⟨a, vs, rfl, .inr (hK ▸ sq_of_rep h1), fun l hl => k.newL h2 hl⟩
    · cases ez) hg hm (by decide +kernel) ha (by decide) (by decide) he

/-! ### x[i] -/
def ixD : D → D → Option Vl
  | .lst ds, .int i => (atI ds i).map fun d => (d, false)
  | .tup ds, .int i => (atI ds i).map fun d => (d, false)
  | .scr ds, .int i => (atI ds i).map fun d => (d, false)
  | .str x, .int i => if x.length ≤ sizeLine then (atI x.cps.toList i).map fun c => dS ⟨#[c]⟩ else none
  | _, _ => none
theorem atI_rep {O : Av} {H : Hp} {ds : List D} {vs : List V} {i : Int} {d : D} (h : RepL w O H ds vs) (e : atI ds i = some d) : ∃ v, atI vs i = some v ∧ Rep w O H d v := by
  unfold atI at e ⊢
  rw [h.length]
  cases q : ixN ds.length i with
  | none => rw [q] at e; cases e
  | some j =>
    rw [q] at e
    have e : ds[j]? = some d := e
    obtain ⟨v, e1, e2⟩ := h.get e
    exact ⟨v, e1, e2⟩
theorem o2_ix : Op2 w (rIx w.K) ixD := fun O H x y z vx vy Q dm e hx hy k => by
  unfold ixD at e
  split at e
  · rename_i ds i
    rw [rep_int hy]
    cases q : atI ds i with
    | none => rw [q] at e; cases e
    | some d =>
      rw [q] at e
      cases e
      simp only [Rep] at hx
      obtain ⟨a, vs, rfl, h1, h2⟩ := hx
      obtain ⟨v, e1, e2⟩ := atI_rep h2 q
      exact .inl ⟨a, vs, i, v, rfl, rfl, sl_of_rep h1, e1, k.val e2⟩
  · rename_i ds i
    rw [rep_int hy]
    cases q : atI ds i with
    | none => rw [q] at e; cases e
    | some d =>
      rw [q] at e
      cases e
      simp only [Rep] at hx
      obtain ⟨a, vs, rfl, h1, h2⟩ := hx
      obtain ⟨v, e1, e2⟩ := atI_rep h2 q
      exact .inr (.inl ⟨a, vs, i, v, rfl, rfl, sq_of_rep h1, e1, k.val e2⟩)
  · rename_i ds i
    rw [rep_int hy]
    cases q : atI ds i with
    | none => rw [q] at e; cases e
    | some d =>
      rw [q] at e
      cases e
      simp only [Rep] at hx
      obtain ⟨a, vs, rfl, h1, h2⟩ := hx
      obtain ⟨v, e1, e2⟩ := atI_rep h2 q
      exact .inl ⟨a, vs, i, v, rfl, rfl, h1.imp (fun ⟨o, z⟩ => .inr ⟨o, z.2⟩) id, e1, k.val e2⟩
  · rename_i x i
    split at e
    · rename_i hz
      rw [rep_int hy, rep_str hx]
      cases q : atI x.cps.toList i with
      | none => rw [q] at e; cases e
      | some c =>
        rw [q] at e
        cases e
        exact .inr (.inr ⟨x, i, c, rfl, rfl, hz, q, k.str⟩)
    · cases e
  · cases e
theorem pm_item (hK : w.K = X.K) (ha : PM X w W a ma) (hb : PM X w W b mb) (hs : PlainIx b := by exact fun _ _ => rfl) : PM X w W (.Subscript a b pos) (mOp2 ixD ma mb) := pm_ix ix_seq (hK ▸ o2_ix) ha hb hs
end
end PM

namespace PM
open PySem L2

/-! ### one's own lists: read, changed -/
/-- an expression behind a slot that holds a list of one's own -/
def mBehind {α : Type} (i : Nat) (m : En → Rs α) (f : α → Sl → Mu → En → Rs Vl) : ME := fun ρ => match muOf i ρ with
  | some (_, .lst _) => (m ρ).bind fun y ρ1 => (match muOf i ρ1 with
    | none => .stuck
    | some (s, m) => f y s m ρ1)
  | _ => .stuck
theorem behind_hold {α : Type} {i : Nat} {m : En → Rs α} {f : α → Sl → Mu → En → Rs Vl} {F : Fr} {W : WX} {O : Av} {σ : St} {H : Hp} {Q : VK} {ρ : En} (R : Rel F O ρ σ H) (h : Hold F W O σ H (RV F σ H) Q (mBehind i m f ρ)) :
    ∃ a vs, σ[i]? = some (some (.ref a)) ∧ H a = some (.lst vs) ∧ Hold F W O σ H (RV F σ H) Q ((m ρ).bind fun y ρ1 => (match muOf i ρ1 with
    | none => .stuck
    | some (s, m) => f y s m ρ1)) := by
  unfold mBehind at h
  split at h
  · rename_i s ds q
    obtain ⟨e0, g0⟩ := muOf_some q
    obtain ⟨a, ea, oa, vs, hv, _⟩ := R.muAt e0 g0
    exact ⟨a, vs, ea, hv, h⟩
  · exact h.elim
def mItemO (i : Nat) (mb : ME) : ME := mBehind i mb fun y s m ρ1 => match m, y.1 with
  | .lst ds, .int k => lift ((atI ds k).map fun d => (d, false)) ρ1
  | _, _ => .stuck
def mAppend (i : Nat) (mr : MA) : ME := mBehind i mr fun ys s m ρ1 => match m, ys with
  | .lst ds, [y] => if ds.length < sizeLine then .ok (.non, false) (ρ1.set i (s.put (.lst (ds ++ [y])))) else .stuck
  | _, _ => .stuck
def mLenO (i : Nat) : ME := mBehind i mNil fun _ s m ρ1 => match m with
  | .lst ds => .ok (dI ds.length) ρ1
  | _ => .stuck
def mSetItem (i : Nat) (mk mv : ME) : MS := fun ρ => (mv ρ).bind fun y ρ1 => match muOf i ρ1 with
  | none => .stuck
  | some _ => (mk ρ1).bind fun k ρ2 => match muOf i ρ2, k.1 with
    | some (s, .lst ds), .int j => (match ixN ds.length j with
      | some n => .ok .nx (ρ2.set i (s.put (.lst (ds.set n y.1))))
      | none => .stuck)
    | _, _ => .stuck
section
variable {w : Wd} {W : WX} {F : Fr} {O : Av} {ρ : En} {σ : St} {H : Hp}
theorem mut_lst {i : Nat} {s : Sl} {m : Mu} {a : Addr} {vs : List V} {ds : List D} (R : Rel F O ρ σ H) (e : ρ[i]? = some s) (g : s.get = some m) (ea : σ[i]? = some (some (.ref a))) (ho : O a) (h : RepL F.w O H ds vs) :
    Rel F O (ρ.set i (s.put (.lst ds))) σ (upd H a (.lst vs)) ∧ Step O H O (upd H a (.lst vs)) :=
  ⟨R.mut e g ea ho ⟨vs, upd_same, RepL.step (mut_step ho) ds vs h⟩, mut_step ho⟩
theorem RepL.set : ∀ {ds : List D} {vs : List V} {n : Nat} {d : D} {v : V}, RepL w O H ds vs → Rep w O H d v → RepL w O H (ds.set n d) (vs.set n v)
  | [], vs, n, d, v, h, k => by
    simp only [RepL] at h
    subst h
    simp [RepL]
  | x :: ds, vs, n, d, v, h, k => by
    simp only [RepL] at h
    obtain ⟨u, us, rfl, h1, h2⟩ := h
    cases n with
    | zero =>
      simp only [List.set_cons_zero, RepL]
      exact ⟨v, us, rfl, k, h2⟩
    | succ n =>
      simp only [List.set_cons_succ, RepL]
      exact ⟨u, _, rfl, h1, RepL.set h2 k⟩
end
section
variable {w : Wd} {W : WX} {X : Cx} {pos p apos : Pos} {x : Str} {b e : Expr} {mb : ME} {mr : MA}
theorem pm_itemO (i : Nat) (hK : w.K = X.K) (hb : PM X w W b mb) (hs : PlainIx b := by exact fun _ _ => rfl) (hN : X.N[i]? = some x := by rfl) (hv : Vis X.env.scope x := by first | exact Or.inl rfl | exact Or.inr (Or.inl rfl) | exact Or.inr (Or.inr rfl)) (hd : (x == ("__debug__" : Str)) = false := by decide)
    (hcd : (x == ("__classdict__" : Str)) = false := by decide) : PM X w W (.Subscript (.Name x p) b pos) (mItemO i mb) := by
  obtain ⟨tb, pb, sb⟩ := hb
  refine ⟨_, pe_ix ix_seq (pv i hN hv hd hcd) pb hs, fun F O ρ σ H Q hw R hh => ?_⟩
  subst hw
  obtain ⟨a, vs0, ea, ha, hh⟩ := behind_hold R hh
  refine ⟨.ref a, ea, ?_⟩
  refine sb.bind rfl R hh fun y u ρ1 O1 H1 st1 R1 ry h1 => ?_
  split at h1
  · exact h1.elim
  · rename_i s m q1
    obtain ⟨e1, g1⟩ := muOf_some q1
    obtain ⟨a', ea', oa', ma'⟩ := R1.muAt e1 g1
    rw [ea] at ea'
    cases ea'
    split at h1
    · rename_i ds k ey
      rw [ey] at ry
      rw [rep_int ry]
      obtain ⟨vs, hv, hr⟩ := ma'
      cases q : atI ds k with
      | none => rw [q] at h1; exact h1.elim
      | some d =>
        rw [q] at h1
        obtain ⟨v, e2, e3⟩ := atI_rep hr q
        exact .inl ⟨a, vs, k, v, rfl, rfl, .inl (.inl hv), e2, (Hold.go (z := (d, false)) h1 st1 R1).val e3⟩
    · exact h1.elim
theorem sim_mut {r : V → List V → Hp → VK → Prop} {i : Nat} {ta : TA} {f : List D → Sl → Mu → En → Rs Vl} (sr : SimA w W ta mr)
    (hf : ∀ (F : Fr) (O : Av) (ρ : En) (σ : St) (H : Hp) (a : Addr) (ys : List D) (us : List V) (s : Sl) (m : Mu) (Q : VK), F.w = w → Rel F O ρ σ H → ρ[i]? = some s → s.get = some m → σ[i]? = some (some (.ref a)) → O a → MuAt F.w O H a m → RepL F.w O H ys us → Hold F W O σ H (RV F σ H) Q (f ys s m ρ) → r (.ref a) us H Q) :
    Sim w W (tBM w.K "list" r (tVar i) ta) (mBehind i mr f) := fun F O ρ σ H Q hw R hh => by
  subst hw
  obtain ⟨a, vs0, ea, ha, hh⟩ := behind_hold R hh
  refine ⟨.ref a, ea, .inl ⟨rfl, vs0, .inl (.inl ha)⟩, ?_⟩
  refine sr.bind rfl R hh fun ys us ρ1 O1 H1 st1 R1 rs h1 => ?_
  split at h1
  · exact h1.elim
  · rename_i s m q1
    obtain ⟨e1, g1⟩ := muOf_some q1
    obtain ⟨a', ea', oa', ma'⟩ := R1.muAt e1 g1
    rw [ea] at ea'
    cases ea'
    exact hf F O1 ρ1 σ H1 a ys us s m Q rfl R1 e1 g1 ea oa' ma' rs (h1.laterV st1)
/-- the end of a change: a value out of it, the list changed -/
theorem Hold.mut {F : Fr} {W : WX} {O : Av} {σ : St} {H : Hp} {Q : VK} {ρ : En} {i : Nat} {s : Sl} {m : Mu} {a : Addr} {ds' : List D} {vs' : List V} {d : D} {v : V} (h : Hold F W O σ H (RV F σ H) Q (.ok (d, false) (ρ.set i (s.put (.lst ds'))))) (R : Rel F O ρ σ H) (e : ρ[i]? = some s) (g : s.get = some m)
    (ea : σ[i]? = some (some (.ref a))) (ho : O a) (hr : RepL F.w O H ds' vs') (hv : Rep F.w O H d v) : Q v (upd H a (.lst vs')) := by
  obtain ⟨R', st⟩ := mut_lst R e g ea ho hr
  exact h O _ v st R' (Rep.step st d v hv)
theorem pm_append (i : Nat) (hK : w.K = X.K) (ha : PMA X w W [e] mr) (hN : X.N[i]? = some x := by rfl) (hv : Vis X.env.scope x := by first | exact Or.inl rfl | exact Or.inr (Or.inl rfl) | exact Or.inr (Or.inr rfl)) (hd : (x == ("__debug__" : Str)) = false := by decide)
    (hcd : (x == ("__classdict__" : Str)) = false := by decide) (hbase : attributeBase (.Name x p) "append" X.env (eval (.Name x p) X.env) = eval (.Name x p) X.env := by rfl)
    (hfew : ((backTo pos (starEach [e] X.env)).all (fun x => !x.1) && (backToKw pos (keywordEach [] X.env)).all (fun x => x.1.isSome)
      && decide ([e].length + ([] : List Keyword).length + (if ([] : List Keyword).isEmpty then 0 else 1) < 30)) = true := by rfl) (hline : (apos.endLine == pos.line) = true := by rfl) (hs : starEach [e] X.env = (false, eval e X.env) :: starEach [] X.env := by rfl) :
    PM X w W (.Call (.Attribute (.Name x p) "append" apos) [e] [] pos) (mAppend i mr) := by
  obtain ⟨ta, pa, sa⟩ := ha
  refine ⟨_, pe_bm PySem.F.plainAttrs_list PySem.F.slot_list_append PySem.F.type_list_append mt_append (pv i hN hv hd hcd) pa hbase hfew hline hs, ?_⟩
  rw [← hK]
  refine sim_mut sa fun F O ρ σ H a ys us s m Q hw R e1 g1 ea oa ma rs hh => ?_
  split at hh
  · rename_i ds y
    obtain ⟨u, rfl, hu⟩ := repl1 rs
    obtain ⟨vs, hvs, hr⟩ := ma
    split at hh
    · rename_i hz
      refine ⟨a, vs, u, rfl, rfl, hvs, by rw [hr.length]; exact hz, ?_⟩
      exact hh.mut (d := .non) R e1 g1 ea oa (hr.append (by simp only [RepL]; exact ⟨u, [], rfl, hu, rfl⟩)) (by simp only [Rep])
    · exact hh.elim
  · exact hh.elim
theorem pm_lenO (i : Nat) (hK : w.K = X.K) (hg : Gl X "len") (hm : X.mg "len" = none) (hN : X.N[i]? = some x := by rfl) (hv : Vis X.env.scope x := by first | exact Or.inl rfl | exact Or.inr (Or.inl rfl) | exact Or.inr (Or.inr rfl)) (hd : (x == ("__debug__" : Str)) = false := by decide)
    (hcd : (x == ("__classdict__" : Str)) = false := by decide) (he : starEach [.Name x p] X.env = (false, eval (.Name x p) X.env) :: starEach [] X.env := by rfl) : PM X w W (.Call (.Name "len" apos) [.Name x p] [] pos) (mLenO i) := by
  refine ⟨_, pe_callB call_len hg hm PySem.boot_len (pa_cons (pv i hN hv hd hcd) pa_nil he) (by decide) (by decide) he, fun F O ρ σ H Q hw R hh => ?_⟩
  subst hw
  unfold mLenO mBehind at hh
  split at hh
  · rename_i s ds q
    obtain ⟨e0, g0⟩ := muOf_some q
    obtain ⟨a, ea, oa, vs, hv, hr⟩ := R.muAt e0 g0
    have hh : Hold F W O σ H (RV F σ H) Q (match muOf i ρ with
      | none => .stuck
      | some (s, m) => (match m with
        | .lst ds => .ok (dI ds.length) ρ
        | _ => .stuck)) := hh
    rw [q] at hh
    refine ⟨.ref a, ea, .ref a, vs.length, rfl, .inl ⟨vs, .inl (.inl hv), rfl⟩, ?_⟩
    rw [hr.length]
    exact Go.int (hh.go (Step.refl _ _) R)
  · exact hh.elim
/-- x[k] = v -/
theorem pms_setItem (i : Nat) {k v : Expr} {mk mv : ME} {spos : Pos} (hv : PM X w W v mv) (hk : PM X w W k mk) (hN : X.N[i]? = some x := by rfl) (hvi : Vis X.env.scope x := by first | exact Or.inl rfl | exact Or.inr (Or.inl rfl) | exact Or.inr (Or.inr rfl)) (hd : (x == ("__debug__" : Str)) = false := by decide)
    (hcd : (x == ("__classdict__" : Str)) = false := by decide)
    (ha : ∀ u, assign (.Subscript (.Name x p) k pos) X.env u = (do
      let ov ← holding [u] (eval (.Name x p) X.env)
      let iv ← holding [u, ov] (eval k X.env)
      standAt pos
      holding [u, ov, iv] (setItem ov iv u)
      release [u, ov, iv] []) := by intro _; rfl)
    (hs : swapsWithSole [.Subscript (.Name x p) k pos] v spos.line X.env = pure false := by rfl) (hw' : swappedStores [.Subscript (.Name x p) k pos] v X.env = pure none := by rfl)
    (h1 : (assignEach [.Subscript (.Name x p) k pos] X.env).map (·.2) = [assign (.Subscript (.Name x p) k pos) X.env] := by rfl) : PMS X w W (.Assign [.Subscript (.Name x p) k pos] v spos) (mSetItem i mk mv) := by
  obtain ⟨tv, pv', sv⟩ := hv
  obtain ⟨tk, pk, sk⟩ := hk
  refine ⟨_, ps_asg pv' (pg_sub (pv i hN hvi hd hcd) pk set_list ha) hs hw' h1, fun F O ρ σ H E hw R hh => ?_⟩
  refine sv.bindS hw R hh fun y u ρ1 O1 H1 st1 R1 rv h2 => ?_
  obtain ⟨O2, s2, R2, r2, s3⟩ := VlAt.release st1 R1 R.doh rv
  have h2 := h2.later s3
  split at h2
  · exact h2.elim
  · rename_i sm q0
    obtain ⟨e0, g0⟩ := muOf_some (s := sm.1) (m := sm.2) q0
    obtain ⟨a, ea, oa, _⟩ := R2.muAt e0 g0
    refine ⟨.ref a, ea, ?_⟩
    refine sk.bindS hw R2 h2 fun kk uk ρ2 O3 H3 st3 R3 rk h3 => ?_
    obtain ⟨O4, s4, R4, r4, s5⟩ := VlAt.release st3 R3 R2.doh rk
    have h3 := h3.later s5
    split at h3
    · rename_i s ds j q1 ek
      obtain ⟨e1, g1⟩ := muOf_some q1
      obtain ⟨a', ea', oa', vs, hvs, hr⟩ := R4.muAt e1 g1
      rw [ea] at ea'
      cases ea'
      rw [ek] at r4
      rw [rep_int r4]
      split at h3
      · rename_i n hn
        refine ⟨a, vs, j, n, rfl, rfl, hvs, by rw [hr.length]; exact hn, ?_⟩
        obtain ⟨R', st⟩ := mut_lst R4 e1 g1 ea oa' (RepL.set (n := n) hr (Rep.step s4 _ _ r2))
        exact h3 O4 σ _ st R'
      · exact h3.elim
    · exact h3.elim
end
end PM

namespace PM
open PySem L2

/-! ### what is walked -/
def ItOk (w : Wd) (ds : List D) (O1 : Av) (H1 : Hp) (J : It) : Prop := ∃ (G : Hp → Prop) (Y : Nat → Hp → V → Hp → Prop), Walk J ds.length G Y ∧ (∀ O' H', Step O1 H1 O' H' → G H') ∧
  ∀ (i : Nat) (O' : Av) (H' : Hp) (x : V) (H'' : Hp), i < ds.length → Step O1 H1 O' H' → Dm O' H' → Y i H' x H'' → Grow H' H'' ∧ ∃ d, ds.drop i = d :: ds.drop (i + 1) ∧ Rep w O' H'' d x
abbrev MI := En → Rs (List D)
def RIt (w : Wd) : En → Av → Hp → It → List D → Prop := fun _ O' H' J ds => ItOk w ds O' H' J
def SimI (w : Wd) (W : WX) (wi : TI) (mi : MI) : Prop := ∀ (F : Fr) (O : Av) (ρ : En) (σ : St) (H : Hp) (R : It → Hp → Prop), F.w = w → Rel F O ρ σ H → Hold F W O σ H (RIt F.w) R (mi ρ) → wi σ H R
def PMI (X : Cx) (w : Wd) (W : WX) (tg it : Expr) (mi : MI) : Prop := ∃ wi, PI X tg it wi ∧ SimI w W wi mi
theorem SimI.bindS {w : Wd} {W : WX} {wi : TI} {mi : MI} (ha : SimI w W wi mi) {F : Fr} {O : Av} {ρ : En} {σ : St} {H : Hp} (hw : F.w = w) (R : Rel F O ρ σ H) {E : Ends} {f : List D → En → Rs Fl} (h : HoldS F W O H E ((mi ρ).bind f)) {k : It → Hp → Prop}
    (hk : ∀ (ds : List D) (J : It) (ρ1 : En) (O1 : Av) (H1 : Hp), Step O H O1 H1 → Rel F O1 ρ1 σ H1 → ItOk F.w ds O1 H1 J → HoldS F W O1 H1 E (f ds ρ1) → k J H1) : wi σ H k := by
  refine ha F O ρ σ H k hw R ?_
  cases e : mi ρ with
  | ok x ρ1 =>
    rw [e] at h
    exact fun O1 H1 v st R1 rv => hk x v ρ1 O1 H1 st R1 rv (h.later st)
  | exc x ρ1 =>
    rw [e] at h
    exact fun O1 H1 cls d st R1 xa => h O1 σ H1 cls d st R1 xa
  | stuck =>
    rw [e] at h
    exact h
theorem SimI.bind {w : Wd} {W : WX} {wi : TI} {mi : MI} (ha : SimI w W wi mi) {F : Fr} {O : Av} {ρ : En} {σ : St} {H : Hp} (hw : F.w = w) (R : Rel F O ρ σ H) {α β : Type} {RA : En → Av → Hp → β → α → Prop} {Q : β → Hp → Prop} {f : List D → En → Rs α}
    (h : Hold F W O σ H RA Q ((mi ρ).bind f)) {k : It → Hp → Prop}
    (hk : ∀ (ds : List D) (J : It) (ρ1 : En) (O1 : Av) (H1 : Hp), Step O H O1 H1 → Rel F O1 ρ1 σ H1 → ItOk F.w ds O1 H1 J → Hold F W O σ H RA Q (f ds ρ1) → k J H1) : wi σ H k := by
  refine ha F O ρ σ H k hw R ?_
  cases e : mi ρ with
  | ok x ρ1 =>
    rw [e] at h
    exact fun O1 H1 v st R1 rv => hk x v ρ1 O1 H1 st R1 rv h
  | exc x ρ1 =>
    rw [e] at h
    exact fun O1 H1 cls d st R1 xa => h O1 H1 cls d st R1 xa
  | stuck =>
    rw [e] at h
    exact h
def itL : D → Option (List D)
  | .lst ds => some ds
  | _ => none
def itT : D → Option (List D)
  | .tup ds => some ds
  | _ => none
def signs (z : Str) : List D := z.cps.toList.map fun c => .str ⟨#[c]⟩
def mIt (f : D → Option (List D)) (m : ME) : MI := fun ρ => (m ρ).bind fun x ρ1 => lift (f x.1) ρ1
def mItA (f : List D → Option (List D)) (m : MA) : MI := fun ρ => (m ρ).bind fun x ρ1 => lift (f x) ρ1
theorem ItOk.at {w : Wd} {O1 : Av} {H1 : Hp} {J : It} {ds : List D} {vs : List V} {G : Hp → Prop} (hw : Walk J vs.length G (YAt vs)) (hr : RepL w O1 H1 ds vs) (hG : ∀ O' H', Step O1 H1 O' H' → G H') : ItOk w ds O1 H1 J := by
  refine ⟨G, YAt vs, hr.length ▸ hw, hG, fun i O' H' x H'' hi st dm y => ?_⟩
  obtain ⟨rfl, e⟩ := y
  obtain ⟨d, e1, e2⟩ := hr.at e
  exact ⟨Grow.refl _, d, e1, Rep.step st _ _ e2⟩
section
variable {w : Wd} {W : WX} {X : Cx} {pos p : Pos} {it tg : Expr} {m : ME} {mr : MA} {a b : Expr}
theorem pmi_list (hK : w.K = X.K) (h : PM X w W it m) : PMI X w W tg it (mIt itL m) := by
  obtain ⟨t, p, s⟩ := h
  refine ⟨_, pi_list p, fun F O ρ σ H R hw R0 hh => ?_⟩
  subst hw
  refine s.bind rfl R0 hh fun x v ρ1 O1 H1 st R1 rx h1 => ?_
  cases q : itL x.1 with
  | none => rw [q] at h1; exact h1.elim
  | some ds =>
    rw [q] at h1
    have ex : x.1 = .lst ds := by
      revert q
      cases x.1 <;> simp [itL]
    rw [ex] at rx
    simp only [Rep] at rx
    obtain ⟨c, vs, rfl, hq, hr⟩ := rx
    refine ⟨c, rfl, ⟨vs, hK ▸ sl_of_rep hq⟩, h1 O1 H1 _ st R1 (ItOk.at walk_list hr fun O' H' st' => hK ▸ sl_of_rep (At.step st' hq))⟩
theorem pmi_tup (hK : w.K = X.K) (h : PM X w W it m) : PMI X w W tg it (mIt itT m) := by
  obtain ⟨t, p, s⟩ := h
  refine ⟨_, pi_tup p, fun F O ρ σ H R hw R0 hh => ?_⟩
  subst hw
  refine s.bind rfl R0 hh fun x v ρ1 O1 H1 st R1 rx h1 => ?_
  cases q : itT x.1 with
  | none => rw [q] at h1; exact h1.elim
  | some ds =>
    rw [q] at h1
    have ex : x.1 = .tup ds := by
      revert q
      cases x.1 <;> simp [itT]
    rw [ex] at rx
    simp only [Rep] at rx
    obtain ⟨c, vs, rfl, hq, hr⟩ := rx
    refine ⟨c, rfl, ⟨vs, hK ▸ sq_of_rep hq⟩, h1 O1 H1 _ st R1 (ItOk.at walk_tup hr fun O' H' st' => hK ▸ sq_of_rep (hq.imp (At.step st') id))⟩
theorem itok_rg {lo : Int} {n : Nat} {O1 : Av} {H1 : Hp} : ItOk w (rgL lo n) O1 H1 (Itr lo n) := by
  refine ⟨fun _ => True, YFn fun i => .int (lo + i), ?_, fun _ _ _ => trivial, fun i O' H' x H'' hi st' dm y => ?_⟩
  · rw [rgL_length]
    exact walk_range
  · obtain ⟨rfl, rfl⟩ := y
    rw [rgL_length] at hi
    exact ⟨Grow.refl _, _, rgL_drop lo n i hi, by simp only [Rep]⟩
theorem pmi_range1 (hg : Gl X "range") (hm : X.mg "range" = none) (ha : PMA X w W [a] mr) (hst : starEach [a] X.env = [(false, eval a X.env)] := by rfl) : PMI X w W tg (.Call (.Name "range" p) [a] [] pos) (mItA rng1 mr) := by
  obtain ⟨t, pa, s⟩ := ha
  refine ⟨_, pi_range1 hg hm pa hst, fun F O ρ σ H R hw R0 hh => ?_⟩
  subst hw
  refine s.bind rfl R0 hh fun xs vs ρ1 O1 H1 st R1 rs h1 => ?_
  cases q : rng1 xs with
  | none => rw [q] at h1; exact h1.elim
  | some ds =>
    rw [q] at h1
    unfold rng1 at q
    split at q
    · rename_i j
      split at q
      · rename_i hj
        cases q
        obtain ⟨v, rfl, r1⟩ := repl1 rs
        rw [rep_int r1]
        exact ⟨j, rfl, hj.1, hj.2, h1 O1 H1 _ st R1 itok_rg⟩
      · cases q
    · cases q
end

/-! ### for -/
def mFor (mi : MI) (g : MG) (body : MS) : MS := fun ρ => (mi ρ).bind fun ds ρ1 => mLoop g body ds ρ1
section
variable {w : Wd} {W : WX} {X : Cx} {pos : Pos} {it tg : Expr} {mi : MI} {body : List Stmt} {mb : MS} {g : MG} {js : List Nat}
theorem pms_for (hp : PassesOwn (model X.prog X.w) X.A X.env X.xe) (hc : X.calm = true) (hi : PMI X w W tg it mi) (hg : PMG X w tg g js) (hb : PMSs X w W body mb) (hs : ∀ x, foldedSetIterable it X.env x = pure x := by intro _; rfl) :
    PMS X w W (.For tg it body [] pos) (mFor mi g mb) := by
  obtain ⟨wi, pi, si⟩ := hi
  obtain ⟨gg, pg, sg⟩ := hg
  obtain ⟨tb, pb, sb⟩ := hb
  refine ⟨_, ps_for hp hc pi pg pb hs, fun F O ρ σ H E hw R hh => ?_⟩
  refine si.bindS hw R hh fun ds J ρ1 O1 H1 st1 R1 io h1 => ?_
  obtain ⟨G, Y, wk, hG, hY⟩ := io
  refine for_it wk (fun i σ' H' => ∃ O' ρ', Step O1 H1 O' H' ∧ Rel F O' ρ' σ' H' ∧ HoldS F W O1 H1 E (mLoop g mb (ds.drop i) ρ')) ⟨O1, ρ1, Step.refl _ _, R1, h1⟩ ?_ ?_ ?_
  · rintro i σ' H' _ ⟨O', ρ', st, R', _⟩
    exact hG O' H' st
  · rintro i x σ' H' H'' hi ⟨O', ρ', st, R', hl⟩ y
    obtain ⟨gr, d, ed, rd⟩ := hY i O' H' x H'' hi st R'.dom y
    rw [ed] at hl
    exact loop_turn sg sb hw (R'.grow gr) (hw ▸ rd) (st.trans gr.step) hl fun O3 ρ3 σ3 H3 st3 R3 h3 => ⟨O3, ρ3, st3, R3, h3⟩
  · rintro σ' H' ⟨O', ρ', st, R', hl⟩
    rw [List.drop_length] at hl
    exact hl O' σ' H' st R'
end

/-! ### a frame within the frame: nothing but the slots' own lists is changed -/
def ownAt (ρ : En) (σ : St) (a : Addr) : Prop := ∃ (i : Nat) (m : Mu), ρ[i]? = some (.own m) ∧ σ[i]? = some (some (.ref a))
open Classical in
noncomputable def heLess (ρ : En) (σ : St) (H : Hp) : Hp := fun a => if ownAt ρ σ a then none else H a
section
variable {F : Fr} {O : Av} {ρ : En} {σ : St} {H : Hp}
theorem heLess_some {a : Addr} {o : HO} (h : heLess ρ σ H a = some o) : H a = some o ∧ ¬ ownAt ρ σ a := by
  unfold heLess at h
  split at h
  · cases h
  · exact ⟨h, by assumption⟩
theorem heLess_not {a : Addr} (h : ¬ ownAt ρ σ a) : heLess ρ σ H a = H a := by
  unfold heLess
  rw [if_neg h]
theorem heLess_own {a : Addr} (h : ownAt ρ σ a) : heLess ρ σ H a = none := by
  unfold heLess
  rw [if_pos h]
/-- the frame within, with d guarded besides -/
noncomputable def Fr.within (F : Fr) (ρ : En) (σ : St) (H : Hp) (d : Addr) : Fr := ⟨F.w, ins F.B d, F.Io, heLess ρ σ H⟩
theorem own_he (R : Rel F O ρ σ H) {a : Addr} (h : ownAt ρ σ a) : F.He a = none := by
  obtain ⟨i, m, e1, e2⟩ := h
  obtain ⟨b, q1, q2, q3, _⟩ := R.slot i _ e1
  rw [e2] at q1
  cases q1
  exact q3
theorem Rel.within (R : Rel F O ρ σ H) {d : Addr} (hd : O d) (ap : Apart ρ σ d) : Rel (F.within ρ σ H d) O ρ σ H where
  len := R.len
  b0 := fun a h => h.elim (R.b0 a) fun e => by rw [e]; exact hd
  bh := fun a h => by
    have na : ¬ ownAt ρ σ a := fun ow => by
      rcases h with h | h
      · exact R.bh a h (own_he R ow)
      · obtain ⟨i, m, e1, e2⟩ := ow
        subst h
        exact ap i _ e1 rfl e2
    show heLess ρ σ H a ≠ none
    rw [heLess_not na]
    rcases h with h | h
    · exact R.dom a (R.b0 a h)
    · rw [h]
      exact R.dom d hd
  ib := fun i a h => .inl (R.ib i a h)
  dom := R.dom
  doh := fun a h => by
    have h : heLess ρ σ H a ≠ none := h
    cases e : heLess ρ σ H a with
    | none => exact absurd e h
    | some o => rw [(heLess_some e).1]; simp
  tab := R.tab
  keep := fun a o h _ => (heLess_some h).1
  slot := fun i s e => by
    have q := R.slot i s e
    cases s with
    | non => trivial
    | val d => exact q
    | own m =>
      obtain ⟨b, q1, q2, q3, q4⟩ := q
      exact ⟨b, q1, q2, heLess_own ⟨i, m, e, q1⟩, q4⟩
    | io m => exact q
  dist := R.dist
/-- back, behind it: d is as it was -/
theorem Rel.without (R0 : Rel F O ρ σ H) {d : Addr} {o : HO} (hd : H d = some o) (ap : Apart ρ σ d) (hb : ¬ F.B d) {O' : Av} {ρ' : En} {σ' : St} {H' : Hp} (R : Rel (F.within ρ σ H d) O' ρ' σ' H') : Rel F O' ρ' σ' H' ∧ O' d ∧ H' d = some o := by
  have nd : ¬ ownAt ρ σ d := fun ⟨i, m, e1, e2⟩ => ap i _ e1 rfl e2
  refine ⟨⟨R.len, fun a h => R.b0 a (.inl h), R0.bh, R0.ib, R.dom, fun a h => ?_, fun a o h n => ?_, fun i s e => ?_, R.dist, R.tab⟩, R.b0 d (.inr rfl), R.keep d o ?_ fun i q => hb (R0.ib i d q)⟩
  · have na : ¬ ownAt ρ σ a := fun ow => h (own_he R0 ow)
    refine R.doh a ?_
    show heLess ρ σ H a ≠ none
    rw [heLess_not na]
    exact R0.doh a h
  · have na : ¬ ownAt ρ σ a := fun ow => by
      rw [own_he R0 ow] at h
      cases h
    refine R.keep a o ?_ n
    show heLess ρ σ H a = some o
    rw [heLess_not na]
    exact R0.keep a o h n
  · have q := R.slot i s e
    cases s with
    | non => trivial
    | val d => exact q
    | own m =>
      obtain ⟨b, q1, q2, q3, q4⟩ := q
      refine ⟨b, q1, q2, ?_, q4⟩
      have q3 : heLess ρ σ H b = none := q3
      by_cases ow : ownAt ρ σ b
      · exact own_he R0 ow
      · rw [heLess_not ow] at q3
        exact R0.freshE q3
    | io m => exact q
  · show heLess ρ σ H d = some o
    rw [heLess_not nd]
    exact hd
/-- a guarded thing that no slot holds is changed -/
theorem Rel.updG (R : Rel F O ρ σ H) {a : Addr} {o' : HO} (ho : O a) (ap : Apart ρ σ a) (he : F.He a = none) : Rel F O ρ σ (upd H a o') := by
  have st : Step O H O (upd H a o') := mut_step ho
  refine ⟨R.len, R.b0, R.bh, R.ib, fun b q => st.dom b (R.dom b q), fun b q => st.dom b (R.doh b q), fun b o q n => ?_, fun i s e => ?_, R.dist, R.tab.step st fun p hp => upd_ne fun z => R.bh p.1 (R.ib _ _ (R.tab p hp).1) (z ▸ he)⟩
  · rw [upd_ne fun z => by rw [z, he] at q; cases q]
    exact R.keep b o q n
  · have q := R.slot i s e
    cases s with
    | non => trivial
    | val d =>
      obtain ⟨v, q1, q2⟩ := q
      exact ⟨v, q1, Rep.step st d v q2⟩
    | own m =>
      obtain ⟨b, q1, q2, q3, q4⟩ := q
      exact ⟨b, q1, q2, q3, q4.step st (upd_ne fun z => ap i _ e rfl (z ▸ q1))⟩
    | io m =>
      obtain ⟨b, q1, q2, q4⟩ := q
      exact ⟨b, q1, q2, q4.step st (upd_ne fun z => ap i _ e rfl (z ▸ q1))⟩
end
end PM

namespace PM
open PySem L2

def wipeE (ρ : En) : List Nat → En
  | [] => ρ
  | v :: vs => (wipeE ρ vs).set v .non
theorem wipeE_get {ρ : En} {vs : List Nat} {j : Nat} {s : Sl} (h : (wipeE ρ vs)[j]? = some s) : s = .non ∨ (j ∉ vs ∧ ρ[j]? = some s) := by
  induction vs with
  | nil => exact .inr ⟨by simp, h⟩
  | cons v vs ih =>
    unfold wipeE at h
    rcases get_set h with ⟨e1, e2⟩ | ⟨e1, e2⟩
    · exact .inl e2
    · rcases ih e2 with q | ⟨q1, q2⟩
      · exact .inl q
      · exact .inr ⟨by simp [Ne.symm e1, q1], q2⟩
theorem wipeE_len {ρ : En} {vs : List Nat} : (wipeE ρ vs).length = ρ.length := by
  induction vs with
  | nil => rfl
  | cons v vs ih => simp [wipeE, ih]
theorem wipe_off {σ : St} {vs : List Nat} {j : Nat} (h : j ∉ vs) : (wipe σ vs)[j]? = σ[j]? := by rw [wipe_get, if_neg h]
theorem wipe_twice {σ : St} {vs : List Nat} : wipe (wipe σ vs) vs = wipe σ vs := by
  apply List.ext_getElem?
  intro j
  rw [wipe_get, wipe_get]
  by_cases h : j ∈ vs
  · rw [if_pos h, if_pos h]
    cases σ[j]? <;> rfl
  · rw [if_neg h, if_neg h]
section
variable {F : Fr} {O : Av} {ρ : En} {σ τ : St} {H : Hp} {vs : List Nat}
/-- the slots of a block's names are emptied; of the others nothing else than before is asked -/
theorem Rel.slots (R : Rel F O ρ τ H) (hl : ρ.length = σ.length) (hs : ∀ j, j ∉ vs → σ[j]? = τ[j]?) : Rel F O (wipeE ρ vs) σ H := by
  refine ⟨wipeE_len.trans hl, R.b0, R.bh, R.ib, R.dom, R.doh, R.keep, fun j s e => ?_, fun i j s t e1 e2 m1 m2 q => ?_, R.tab⟩
  · rcases wipeE_get e with rfl | ⟨n, e⟩
    · trivial
    · rw [hs j n]
      exact R.slot j s e
  · rcases wipeE_get e1 with rfl | ⟨n1, e1⟩
    · cases m1
    · rcases wipeE_get e2 with rfl | ⟨n2, e2⟩
      · cases m2
      · rw [hs i n1, hs j n2] at q
        exact R.dist i j s t e1 e2 m1 m2 q
theorem Rel.wipe (R : Rel F O ρ σ H) : Rel F O (wipeE ρ vs) (wipe σ vs) H := R.slots (by rw [wipe_length]; exact R.len) fun j h => wipe_off h
theorem Apart.slots {a : Addr} (R : Apart ρ τ a) (hs : ∀ j, j ∉ vs → σ[j]? = τ[j]?) : Apart (wipeE ρ vs) σ a := fun j s e m => by
  rcases wipeE_get e with rfl | ⟨n, e⟩
  · cases m
  · rw [hs j n]
    exact R j s e m
/-- what lies guarded from outside the frame, and was there at its beginning, no slot may change -/
theorem Rel.apartB (R : Rel F O ρ σ H) {a : Addr} (h : F.He a ≠ none) (n : ∀ i, ¬ F.Io i a) : Apart ρ σ a := fun i s e m q => by
  have z := R.slot i s e
  cases s with
  | non => cases m
  | val d => cases m
  | own m0 =>
    obtain ⟨b, e1, e2, e3, e4⟩ := z
    rw [q] at e1
    cases e1
    exact h e3
  | io m0 =>
    obtain ⟨b, e1, e2, e4⟩ := z
    rw [q] at e1
    cases e1
    exact n i e2
end

/-! ### [e for x in it if t] -/
def mLcLoop (g : MG) (vs : List Nat) (mt : MT) (me : ME) : List D → List D → En → Rs (List D)
  | [], acc, ρ => .ok acc ρ
  | d :: ds, acc, ρ => match g d ρ with
    | none => .stuck
    | some ρ1 => match mt ρ1 with
      | .ok b ρ2 => if b = true then (match me ρ2 with
          | .ok y ρ3 => if acc.length < sizeLine then mLcLoop g vs mt me ds (acc ++ [y.1]) (wipeE ρ3 vs) else .stuck
          | _ => .stuck) else mLcLoop g vs mt me ds acc (wipeE ρ2 vs)
      | _ => .stuck
def mLc (mi : MI) (vs : List Nat) (g : MG) (mt : MT) (me : ME) : ME := fun ρ => (mi ρ).bind fun ds ρ1 => (mLcLoop g vs mt me ds [] (wipeE ρ1 vs)).bind fun acc ρ2 => .ok (.lst acc, true) (wipeE ρ2 vs)
def mYes : MT := fun ρ => .ok true ρ
theorem simI_bind1 {wi : TI} {mi : MI} {W : WX} {F : Fr} {O : Av} {ρ : En} {σ : St} {H : Hp} (si : ∀ k : It → Hp → Prop, Hold F W O σ H (RIt F.w) k (mi ρ) → wi σ H k) {α β : Type} {RA : En → Av → Hp → β → α → Prop} {Q : β → Hp → Prop} {f : List D → En → Rs α}
    (h : Hold F W O σ H RA Q ((mi ρ).bind f)) {k : It → Hp → Prop}
    (hk : ∀ (ds : List D) (J : It) (ρ1 : En) (O1 : Av) (H1 : Hp), Step O H O1 H1 → Rel F O1 ρ1 σ H1 → ItOk F.w ds O1 H1 J → Hold F W O σ H RA Q (f ds ρ1) → k J H1) : wi σ H k := by
  refine si k ?_
  cases e : mi ρ with
  | ok x ρ1 =>
    rw [e] at h
    exact fun O1 H1 v st R1 rv => hk x v ρ1 O1 H1 st R1 rv h
  | exc x ρ1 =>
    rw [e] at h
    exact fun O1 H1 cls d st R1 xa => h O1 H1 cls d st R1 xa
  | stuck =>
    rw [e] at h
    exact h
/-- what is walked is known at this frame alone -/
theorem sim_lc1 {w : Wd} {W : WX} {wi : TI} {mi : MI} {gg : TG} {g : MG} {js vs : List Nat} {tt : TT} {mt : MT} {te : TE} {me : ME} {F : Fr} {O : Av} {ρ : En} {σ : St} {H : Hp} {Q : VK} (si : ∀ k : It → Hp → Prop, Hold F W O σ H (RIt F.w) k (mi ρ) → wi σ H k) (sg : SimG w gg g js) (stt : SimT w W0 tt mt) (se : Sim w W0 te me) (hj : ∀ j ∈ js, j ∈ vs)
    (hw : F.w = w) (R : Rel F O ρ σ H) (hh : Hold F W O σ H (RV F σ H) Q (mLc mi vs g mt me ρ)) : tLc wi gg tt te vs σ H Q := by
  refine simI_bind1 si hh fun ds J ρ1 O1 H1 st1 R1 io h1 => ?_
  intro Dl hD
  obtain ⟨G, Y, wk, hG, hY⟩ := io
  have hDe : F.He Dl = none := R1.freshE hD
  have hDb : ¬ F.B Dl := fun q => R1.bh Dl q hDe
  have hDi : ∀ i, ¬ F.Io i Dl := fun i q => hDb (R1.ib i Dl q)
  have g0 : Grow H1 (upd H1 Dl (.lst [])) := Grow.new hD
  have R2 : Rel F (ins O1 Dl) ρ1 σ (upd H1 Dl (.lst [])) := R1.guard g0 hD (by rw [upd_same]; simp)
  refine lc_it wk (fun i H' => ∃ (O' : Av) (ρ' : En) (acc : List D) (va : List V), Step O1 H1 O' H' ∧ Rel F O' ρ' (wipe σ vs) H' ∧ O' Dl ∧ Apart ρ' (wipe σ vs) Dl ∧ H' Dl = some (.lst va) ∧ RepL F.w O' H' acc va ∧
      Hold F W O σ H (RV F σ H) Q ((mLcLoop g vs mt me (ds.drop i) acc ρ').bind fun acc ρ2 => .ok (.lst acc, true) (wipeE ρ2 vs))) ?_ ?_ ?_ ?_
  · exact ⟨ins O1 Dl, wipeE ρ1 vs, [], [], ins_step g0 hD, R2.wipe, .inr rfl, (R1.apart hD).slots fun j h => wipe_off h, upd_same, by simp only [RepL], h1⟩
  · rintro i H' _ ⟨O', ρ', acc, va, st, _⟩
    exact hG O' H' st
  · rintro i x H' H'' hi ⟨O', ρ', acc, va, st, R', od, ap, hd, ra, hl⟩ y
    obtain ⟨gr, d, ed, rd⟩ := hY i O' H' x H'' hi st R'.dom y
    rw [ed] at hl
    have R3 : Rel F O' ρ' (wipe σ vs) H'' := R'.grow gr
    have hd3 : H'' Dl = some (.lst va) := gr _ _ hd
    have ra3 : RepL F.w O' H'' acc va := RepL.step gr.step _ _ ra
    have st3 : Step O1 H1 O' H'' := st.trans gr.step
    have Rw : Rel (F.within ρ' (wipe σ vs) H'' Dl) O' ρ' (wipe σ vs) H'' := R3.within od ap
    have nw : ¬ ownAt ρ' (wipe σ vs) Dl := fun ⟨i, m, e1, e2⟩ => ap i _ e1 rfl e2
    have heD : (F.within ρ' (wipe σ vs) H'' Dl).He Dl ≠ none := by
      show heLess ρ' (wipe σ vs) H'' Dl ≠ none
      rw [heLess_not nw, hd3]
      simp
    unfold mLcLoop at hl
    cases q : g d ρ' with
    | none => simp only [q] at hl; exact hl.elim
    | some ρa =>
      simp only [q] at hl
      refine sg (F.within ρ' (wipe σ vs) H'' Dl) O' ρ' ρa (wipe σ vs) H'' x d _ hw Rw (hw ▸ rd) q fun σa Ra out => ?_
      have ew : wipe σa vs = wipe σ vs := (out vs hj).trans wipe_twice
      have hs : ∀ j, j ∉ vs → (wipe σ vs)[j]? = σa[j]? := fun j h => by rw [← ew, wipe_off h]
      have hlen : ∀ {ρx : En} {Ox : Av} {Hx : Hp}, Rel F Ox ρx σa Hx → ρx.length = (wipe σ vs).length := fun Rx => by rw [Rx.len, ← ew, wipe_length]
      refine ⟨ew, stt (F.within ρ' (wipe σ vs) H'' Dl) O' ρa σa H'' _ hw Ra ?_⟩
      cases q2 : mt ρa with
      | stuck => simp only [q2] at hl; exact hl
      | exc x ρb => simp only [q2] at hl; exact hl.elim
      | ok b ρb =>
        simp only [q2] at hl
        intro Ob Hb b' stb Rb eb
        have eb : b' = b := eb
        subst eb
        cases b' with
        | false =>
          refine iteF ?_
          obtain ⟨Rf, ob, hb⟩ := R3.without hd3 ap hDb Rb
          refine ⟨Ob, wipeE ρb vs, acc, va, st3.trans stb, Rf.slots (hlen Rf) hs, ob, (Rb.apartB heD hDi).slots hs, hb, RepL.step stb _ _ ra3, ?_⟩
          exact hl
        | true =>
          refine iteT (se (F.within ρ' (wipe σ vs) H'' Dl) Ob ρb σa Hb _ hw Rb ?_)
          cases q3 : me ρb with
          | stuck => simp only [q3] at hl; exact hl
          | exc x ρc => simp only [q3] at hl; exact hl.elim
          | ok yv ρc =>
            simp only [q3] at hl
            intro Oc Hc v stc Rc rv
            obtain ⟨O5, s5, R5, r5, _⟩ := VlAt.release stc Rc Rb.doh rv
            obtain ⟨Rf, ob, hb⟩ := R3.without hd3 ap hDb R5
            have ap5 : Apart ρc σa Dl := R5.apartB heD hDi
            rw [if_pos trivial] at hl
            split at hl
            · rename_i hz
              have st5 : Step O' H'' O5 Hc := stb.trans s5
              have ra5 : RepL F.w O5 Hc acc va := RepL.step st5 _ _ ra3
              have R6 : Rel F O5 ρc σa (upd Hc Dl (.lst (va ++ [v]))) := Rf.updG ob ap5 hDe
              have mst : Step O5 Hc O5 (upd Hc Dl (.lst (va ++ [v]))) := mut_step ob
              refine ⟨va, hb, by rw [ra5.length]; exact hz, O5, wipeE ρc vs, acc ++ [yv.1], va ++ [v], (st3.trans st5).trans mst, R6.slots (hlen R6) hs, ob, ap5.slots hs, upd_same, ?_, hl⟩
              refine RepL.step mst _ _ (ra5.append ?_)
              simp only [RepL]
              exact ⟨v, [], rfl, r5, rfl⟩
            · exact hl.elim
  · rintro H' ⟨O', ρ', acc, va, st, R', od, ap, hd, ra, hl⟩
    rw [List.drop_length] at hl
    have hl : Hold F W O σ H (RV F σ H) Q (.ok (.lst acc, true) (wipeE ρ' vs)) := hl
    have back : ∀ j, j ∉ vs → σ[j]? = (wipe σ vs)[j]? := fun j h => (wipe_off h).symm
    exact hl O' H' (.ref Dl) (st1.trans st) (R'.slots (by rw [R'.len, wipe_length]) back) ⟨Dl, .lst acc, rfl, st1.none_back hD, od, rfl, ⟨va, hd, ra⟩, ap.slots back⟩
theorem sim_lc {w : Wd} {W : WX} {wi : TI} {mi : MI} {gg : TG} {g : MG} {js vs : List Nat} {tt : TT} {mt : MT} {te : TE} {me : ME} (si : SimI w W wi mi) (sg : SimG w gg g js) (stt : SimT w W0 tt mt) (se : Sim w W0 te me) (hj : ∀ j ∈ js, j ∈ vs) :
    Sim w W (tLc wi gg tt te vs) (mLc mi vs g mt me) := fun F O ρ σ H Q hw R hh => sim_lc1 (fun k hk => si F O ρ σ H k hw R hk) sg stt se hj hw R hh
section
variable {w : Wd} {W : WX} {X : Cx} {pos spos py : Pos} {elt tg iter : Expr} {ifs : List Expr} {scope : Scope} {own : List (Str × Nat)} {mi : MI} {g : MG} {js : List Nat} {mt : MT} {me : ME}
def PMTs (X : Cx) (w : Wd) (W : WX) (ifs : List Expr) (m : MT) : Prop := ∃ t, PTs X ifs t ∧ SimT w W t m
theorem pmts_nil : PMTs X w W [] mYes := ⟨_, pts_nil, fun F O ρ σ H Q hw R hh => hh O H true (Step.refl _ _) R rfl⟩
theorem pmts_one {c : Expr} {m : MT} (h : PMT X w W c m) : PMTs X w W [c] m := by
  obtain ⟨t, p, s⟩ := h
  exact ⟨t, pts_one p, s⟩
/-! one reading for a judgement, whatever it was found by -/
def teOf (w : Wd) (W : WX) (m : ME) : TE := fun σ H Q => ∃ (F : Fr) (O : Av) (ρ : En), F.w = w ∧ Rel F O ρ σ H ∧ Hold F W O σ H (RV F σ H) Q (m ρ)
def ttOf (w : Wd) (W : WX) (m : MT) : TT := fun σ H Q => ∃ (F : Fr) (O : Av) (ρ : En), F.w = w ∧ Rel F O ρ σ H ∧ Hold F W O σ H RBl Q (m ρ)
def tgOf (w : Wd) (g : MG) (js : List Nat) : TG := fun v σ H Q => ∃ (F : Fr) (O : Av) (ρ ρ1 : En) (d : D), F.w = w ∧ Rel F O ρ σ H ∧ Rep F.w O H d v ∧ g d ρ = some ρ1 ∧ ∀ σ1, Rel F O ρ1 σ1 H → Out js σ σ1 → Q σ1 H
theorem sim_of {m : ME} : Sim w W (teOf w W m) m := fun F O ρ σ H Q hw R hh => ⟨F, O, ρ, hw, R, hh⟩
theorem simt_of {m : MT} : SimT w W (ttOf w W m) m := fun F O ρ σ H Q hw R hh => ⟨F, O, ρ, hw, R, hh⟩
theorem simg_of : SimG w (tgOf w g js) g js := fun F O ρ ρ1 σ H v d Q hw R h e k => ⟨F, O, ρ, ρ1, d, hw, R, h, e, k⟩
theorem PM.pe {e : Expr} {m : ME} (h : PM X w W e m) : PE X e (teOf w W m) := by
  obtain ⟨te, p, s⟩ := h
  exact ⟨fun pins s0 σ H Q I ⟨F, O, ρ, hw, R, hh⟩ => p.run pins s0 σ H Q I (s F O ρ σ H Q hw R hh)⟩
theorem PMTs.pe {e : List Expr} {m : MT} (h : PMTs X w W e m) : PTs X e (ttOf w W m) := by
  obtain ⟨te, p, s⟩ := h
  exact ⟨fun pins s0 σ H Q I ⟨F, O, ρ, hw, R, hh⟩ => p.run pins s0 σ H Q I (s F O ρ σ H Q hw R hh)⟩
theorem PMG.pe {e : Expr} (h : PMG X w e g js) : PG X e (tgOf w g js) := by
  obtain ⟨te, p, s⟩ := h
  exact ⟨fun pins s0 σ H v u Q I r ⟨F, O, ρ, ρ1, d, hw, R, hd, e, k⟩ => p.run pins s0 σ H v u Q I r (s F O ρ ρ1 σ H v d Q hw R hd e k)⟩
theorem pm_lc (hc : X.calm = true) (hN : X.N.Nodup) (hi : PMI X w W tg iter mi) (ok : BlkOk X.N X.env.scope scope own) (hj : ∀ j ∈ js, j ∈ own.map (·.2))
    (hg : ∀ (s : Shared) (H : Hp) (C : Addr) (cl : List (Str × Addr)) (fp : List Addr), PMG (X.blk s H scope (compEnvC scope cl C X.env) fp) w tg g js) (ht : ∀ (s : Shared) (H : Hp) (C : Addr) (cl : List (Str × Addr)) (fp : List Addr), PMTs (X.blk s H scope (compEnvC scope cl C X.env) fp) w W0 ifs mt)
    (he : ∀ (s : Shared) (H : Hp) (C : Addr) (cl : List (Str × Addr)) (fp : List Addr), PM (X.blk s H scope (compEnvC scope cl C X.env) fp) w W0 elt me) (hs : ∀ x, foldedSetIterable iter X.env x = pure x := by intro _; rfl) :
    PM X w W (.ListComp elt [⟨tg, iter, ifs, 0⟩] scope pos) (mLc mi (own.map (·.2)) g mt me) := by
  obtain ⟨wi, pi, si⟩ := hi
  exact ⟨_, pe_lc hc hN pi ok (fun s H C cl fp => (hg s H C cl fp).pe) (fun s H C cl fp => (ht s H C cl fp).pe) (fun s H C cl fp => (he s H C cl fp).pe) hs, sim_lc si simg_of simt_of sim_of hj⟩
theorem sims_asg {te : TE} {m : ME} {i : Nat} (se : Sim w W te m) : SimS w W (tAsg te (gName i)) (mAsg i m) := fun F O ρ σ H E hw R hh => by
  refine se.bindS hw R hh fun x v ρ1 O1 H1 st1 R1 rv h1 => ?_
  obtain ⟨O2, s2, R2, r2, s3⟩ := VlAt.release st1 R1 R.doh rv
  show E.nx _ _
  cases q : setV i x.1 ρ1 with
  | none => rw [q] at h1; exact h1.elim
  | some ρ2 =>
    rw [q] at h1
    exact h1 O2 _ H1 s3 (setV_rel R2 r2 q)
theorem ps_lc {i : Nat} {y : Str} (hc : X.calm = true) (hN : X.N.Nodup) (hy : X.N[i]? = some y) (hyl : X.env.scope.names.lookup y = some .local) (hsw : swapsWith (.ListComp elt [⟨tg, iter, ifs, 0⟩] scope pos) (some (.Name y py)) spos.line X.env = pure true)
    (hi : PMI X w W tg iter mi) (ok : BlkOk X.N X.env.scope scope own) (hj : ∀ j ∈ js, j ∈ own.map (·.2))
    (hg : ∀ (s : Shared) (H : Hp) (C : Addr) (cl : List (Str × Addr)) (fp : List Addr), PMG (X.blk s H scope (compEnvC scope cl C X.env) fp) w tg g js) (ht : ∀ (s : Shared) (H : Hp) (C : Addr) (cl : List (Str × Addr)) (fp : List Addr), PMTs (X.blk s H scope (compEnvC scope cl C X.env) fp) w W0 ifs mt)
    (he : ∀ (s : Shared) (H : Hp) (C : Addr) (cl : List (Str × Addr)) (fp : List Addr), PM (X.blk s H scope (compEnvC scope cl C X.env) fp) w W0 elt me) (hs : ∀ x, foldedSetIterable iter X.env x = pure x := by intro _; rfl) :
    ∃ te, PS X (.Assign [.Name y py] (.ListComp elt [⟨tg, iter, ifs, 0⟩] scope pos) spos) (tAsg te (gName i)) ∧ Sim w W te (mLc mi (own.map (·.2)) g mt me) := by
  obtain ⟨wi, pi, si⟩ := hi
  exact ⟨_, ps_setLc hc hN hy hyl hsw pi ok (fun s H C cl fp => (hg s H C cl fp).pe) (fun s H C cl fp => (ht s H C cl fp).pe) (fun s H C cl fp => (he s H C cl fp).pe) hs, sim_lc si simg_of simt_of sim_of hj⟩
theorem pms_lc {i : Nat} {y : Str} {m : ME} (h : ∃ te, PS X (.Assign [.Name y py] (.ListComp elt [⟨tg, iter, ifs, 0⟩] scope pos) spos) (tAsg te (gName i)) ∧ Sim w W te m) : PMS X w W (.Assign [.Name y py] (.ListComp elt [⟨tg, iter, ifs, 0⟩] scope pos) spos) (mAsg i m) := by
  obtain ⟨te, p, s⟩ := h
  exact ⟨_, p, sims_asg s⟩
end
end PM

namespace PM
open PySem L2

/-! ### (*x, ..) -/
def itSeq : D → Option (List D)
  | .lst ds => some ds
  | .tup ds => some ds
  | _ => none
def mStar (me : ME) (mr : MA) : MA := fun ρ => (me ρ).bind fun x ρ1 => match itSeq x.1 with
  | none => .stuck
  | some ds => (mr ρ1).bind fun ys ρ2 => .ok (ds ++ ys) ρ2
section
variable {w : Wd} {W : WX} {X : Cx} {pos p p2 : Pos} {e : Expr} {es : List Expr} {m : ME} {mr : MA}
theorem seq_rep {O : Av} {H : Hp} {d : D} {ds : List D} {v : V} (h : Rep w O H d v) (e : itSeq d = some ds) : ∃ a vs, v = .ref a ∧ (SqT w.K H a vs ∨ SqL w.K H a vs) ∧ RepL w O H ds vs := by
  unfold itSeq at e
  split at e
  · cases e
    simp only [Rep] at h
    obtain ⟨a, vs, e1, h1, h2⟩ := h
    exact ⟨a, vs, e1, .inr (sl_of_rep h1), h2⟩
  · cases e
    simp only [Rep] at h
    obtain ⟨a, vs, e1, h1, h2⟩ := h
    exact ⟨a, vs, e1, .inl (sq_of_rep h1), h2⟩
  · cases e
theorem pma_star (hK : w.K = X.K) (he : PM X w W e m) (hr : PMA X w W es mr) (hs : starEach (.Starred e p :: es) X.env = (true, eval e X.env) :: starEach es X.env := by rfl) : PMA X w W (.Starred e p :: es) (mStar m mr) := by
  obtain ⟨te, pe, se⟩ := he
  obtain ⟨tr, pr, sr⟩ := hr
  refine ⟨_, StX.pa_star pe pr hs, fun F O ρ σ H Q hw R hh => ?_⟩
  subst hw
  refine se.bind rfl R hh fun x v ρ1 O1 H1 st1 R1 rx h1 => ?_
  cases q : itSeq x.1 with
  | none => rw [q] at h1; exact h1.elim
  | some ds =>
    rw [q] at h1
    obtain ⟨a, vs, rfl, h2, h3⟩ := seq_rep rx q
    refine ⟨a, vs, rfl, hK ▸ h2, ?_⟩
    refine sr.bind rfl R1 (h1.later st1 (RB := VlsAt F.w) fun _ _ _ _ _ _ q => q) fun ys us ρ2 O2 H2 st2 R2 rs h4 => ?_
    exact h4 O2 H2 (vs ++ us) st2 R2 ((RepL.step st2 _ _ h3).append rs)

/-! ### f-strings -/
def fmtD : D → Option Vl
  | .str y => if y.length ≤ sizeLine then some (dS y) else none
  | .int i => if i.natAbs.log2 < 1920 then some (dS (toString i)) else none
  | _ => none
theorem pm_fmt (he : PM X w W e m) : PM X w W (.FormattedValue e (-1) none pos) (mOp1 fmtD m) := by
  obtain ⟨te, pe, se⟩ := he
  refine ⟨_, pe_fmt pe, fun F O ρ σ H Q hw R hh => ?_⟩
  subst hw
  refine se.bind rfl R hh fun x v ρ1 O1 H1 st1 R1 rx h1 => ?_
  cases q : fmtD x.1 with
  | none => rw [q] at h1; exact h1.elim
  | some z =>
    rw [q] at h1
    have k := Hold.go h1 st1 R1
    unfold fmtD at q
    split at q
    · rename_i y ey
      rw [ey] at rx
      split at q
      · cases q
        exact .inl ⟨y, rep_str rx, by assumption, k.str⟩
      · cases q
    · rename_i i ey
      rw [ey] at rx
      split at q
      · cases q
        exact .inr ⟨i, rep_int rx, by assumption, k.str⟩
      · cases q
    · cases q
def mJs : List ME → Str → En → Rs Vl
  | [], acc, ρ => .ok (dS acc) ρ
  | m :: ms, acc, ρ => (m ρ).bind fun x ρ1 => match x.1 with
    | .str y => if (acc ++ y).length ≤ sizeLine then mJs ms (acc ++ y) ρ1 else .stuck
    | _ => .stuck
def PMJ (X : Cx) (w : Wd) (W : WX) (es : List Expr) (ms : List ME) : Prop := ∃ ts, PJ X es ts ∧ ∀ (acc : Str) (F : Fr) (O : Av) (ρ : En) (σ : St) (H : Hp) (Q : VK), F.w = w → Rel F O ρ σ H → Hold F W O σ H (RV F σ H) Q (mJs ms acc ρ) → tJs ts acc σ H fun out H1 => Q (.str out) H1
theorem pmj_nil : PMJ X w W [] [] := ⟨_, .nil, fun acc F O ρ σ H Q hw R hh => Go.str (hh.go (Step.refl _ _) R)⟩
theorem pmj_cons {ms : List ME} (he : PM X w W e m) (hr : PMJ X w W es ms) : PMJ X w W (e :: es) (m :: ms) := by
  obtain ⟨te, pe, se⟩ := he
  obtain ⟨ts, pr, sr⟩ := hr
  refine ⟨_, .cons pe pr, fun acc F O ρ σ H Q hw R hh => ?_⟩
  subst hw
  refine se.bind rfl R hh fun x v ρ1 O1 H1 st1 R1 rx h1 => ?_
  split at h1
  · rename_i y ey
    rw [ey] at rx
    split at h1
    · rename_i hz
      exact ⟨y, rep_str rx, hz, sr (acc ++ y) F O1 ρ1 σ H1 Q rfl R1 (h1.laterV st1)⟩
    · exact h1.elim
  · exact h1.elim
theorem pm_joined {v1 v2 : Expr} {rest : List Expr} {ms : List ME} (h : PMJ X w W (v1 :: v2 :: rest) ms) : PM X w W (.JoinedStr (v1 :: v2 :: rest) pos) (mJs ms Str.empty) := by
  obtain ⟨ts, pj, sj⟩ := h
  exact ⟨_, pe_joined pj, fun F O ρ σ H Q hw R hh => sj Str.empty F O ρ σ H Q hw R hh⟩
/-! ### slices -/
abbrev MO := En → Rs (Option Int)
def RO : En → Av → Hp → Option Int → Option Int → Prop := fun _ _ _ b a => b = a
def SimO (w : Wd) (W : WX) (t : TO) (m : MO) : Prop := ∀ (F : Fr) (O : Av) (ρ : En) (σ : St) (H : Hp) (Q : Option Int → Hp → Prop), F.w = w → Rel F O ρ σ H → Hold F W O σ H RO Q (m ρ) → t σ H Q
def PMO (X : Cx) (w : Wd) (W : WX) (e : Option Expr) (m : MO) : Prop := ∃ t, PO X e t ∧ SimO w W t m
def mNo : MO := fun ρ => .ok none ρ
def asI : D → Option Int
  | .int i => some i
  | _ => none
def mPart (m : ME) : MO := fun ρ => (m ρ).bind fun x ρ1 => match asI x.1 with
  | some i => .ok (some i) ρ1
  | none => .stuck
theorem pmo_none : PMO X w W none mNo := ⟨_, po_none, fun F O ρ σ H Q hw R hh => hh O H none (Step.refl _ _) R rfl⟩
theorem pmo_some (he : PM X w W e m) : PMO X w W (some e) (mPart m) := by
  obtain ⟨te, pe, se⟩ := he
  refine ⟨_, po_some pe, fun F O ρ σ H Q hw R hh => ?_⟩
  subst hw
  refine se.bind rfl R hh fun x v ρ1 O1 H1 st1 R1 rx h1 => ?_
  cases q : asI x.1 with
  | none => rw [q] at h1; exact h1.elim
  | some i =>
    rw [q] at h1
    have ex : x.1 = .int i := by
      revert q
      cases x.1 <;> simp [asI]
    rw [ex] at rx
    exact ⟨i, rep_int rx, h1 O1 H1 (some i) st1 R1 rfl⟩
theorem SimO.bind {ta : TO} {ma : MO} (ha : SimO w W ta ma) {F : Fr} {O : Av} {ρ : En} {σ : St} {H : Hp} (hw : F.w = w) (R : Rel F O ρ σ H) {α β : Type} {RA : En → Av → Hp → β → α → Prop} {Q : β → Hp → Prop} {f : Option Int → En → Rs α}
    (h : Hold F W O σ H RA Q ((ma ρ).bind f)) {k : Option Int → Hp → Prop}
    (hk : ∀ (x : Option Int) (ρ1 : En) (O1 : Av) (H1 : Hp), Step O H O1 H1 → Rel F O1 ρ1 σ H1 → Hold F W O σ H RA Q (f x ρ1) → k x H1) : ta σ H k := by
  refine ha F O ρ σ H k hw R ?_
  cases e : ma ρ with
  | ok x ρ1 =>
    rw [e] at h
    intro O1 H1 v st R1 rv
    have rv : v = x := rv
    subst rv
    exact hk v ρ1 O1 H1 st R1 h
  | exc x ρ1 =>
    rw [e] at h
    exact fun O1 H1 cls d st R1 xa => h O1 H1 cls d st R1 xa
  | stuck =>
    rw [e] at h
    exact h
def cutD (xs : List D) (lo hi : Option Int) : List D := (xs.drop (HT.sIx xs.length 0 lo)).take (HT.sIx xs.length xs.length hi - HT.sIx xs.length 0 lo)
def slD (x : D) (lo hi : Option Int) : Option Vl := match x with
  | .lst ds => some (.lst (cutD ds lo hi), true)
  | .tup ds => some (.tup (cutD ds lo hi), false)
  | .str z => if z.length ≤ sizeLine then some (dS (cutS z lo hi)) else none
  | _ => none
def mSl (m : ME) (lo hi : MO) : ME := fun ρ => (m ρ).bind fun x ρ1 => (lo ρ1).bind fun a ρ2 => (hi ρ2).bind fun b ρ3 => lift (slD x.1 a b) ρ3
theorem RepL.drop {O : Av} {H : Hp} : ∀ {ds : List D} {vs : List V} (n : Nat), RepL w O H ds vs → RepL w O H (ds.drop n) (vs.drop n)
  | ds, vs, 0, h => h
  | [], vs, n + 1, h => by
    simp only [RepL] at h
    subst h
    simp [RepL]
  | d :: ds, vs, n + 1, h => by
    simp only [RepL] at h
    obtain ⟨v, vs', rfl, _, h2⟩ := h
    exact RepL.drop n h2
theorem RepL.take {O : Av} {H : Hp} : ∀ {ds : List D} {vs : List V} (n : Nat), RepL w O H ds vs → RepL w O H (ds.take n) (vs.take n)
  | ds, vs, 0, h => by simp [RepL]
  | [], vs, n + 1, h => by
    simp only [RepL] at h
    subst h
    simp [RepL]
  | d :: ds, vs, n + 1, h => by
    simp only [RepL] at h
    obtain ⟨v, vs', rfl, h1, h2⟩ := h
    simp only [List.take_succ_cons, RepL]
    exact ⟨v, _, rfl, h1, RepL.take n h2⟩
theorem RepL.cut {O : Av} {H : Hp} {ds : List D} {vs : List V} (h : RepL w O H ds vs) (lo hi : Option Int) : RepL w O H (cutD ds lo hi) (cutV vs lo hi) := by
  unfold cutD cutV
  rw [h.length]
  exact (h.drop _).take _
def rSlAll (K : PySem.W.Frag) : V → Option Int → Option Int → Hp → VK → Prop := fun x lo hi H Q => rSlL K x lo hi H Q ∨ rSlA K x lo hi H Q ∨ rSlS x lo hi H Q
theorem sl_all : SlR X (rSlAll X.K) := sl_list.or (sl_tupA.or sl_str)
theorem pm_slice (hK : w.K = X.K) {lo hi : Option Expr} {ml mh : MO} (he : PM X w W e m) (hl : PMO X w W lo ml) (hh : PMO X w W hi mh) : PM X w W (.Subscript e (.Slice lo hi none p2) pos) (mSl m ml mh) := by
  obtain ⟨te, pe, se⟩ := he
  obtain ⟨tl, pl, sl⟩ := hl
  obtain ⟨th, ph, sh⟩ := hh
  refine ⟨_, pe_slice sl_all pe pl ph, fun F O ρ σ H Q hw R hh => ?_⟩
  subst hw
  refine se.bind rfl R hh fun x v ρ1 O1 H1 st1 R1 rx h1 => ?_
  refine sl.bind rfl R1 (h1.laterV st1) fun a ρ2 O2 H2 st2 R2 h2 => ?_
  refine sh.bind rfl R2 (h2.laterV st2) fun b ρ3 O3 H3 st3 R3 h3 => ?_
  have rx := Rep.step (st2.trans st3) _ _ rx
  cases q : slD x.1 a b with
  | none => rw [q] at h3; exact h3.elim
  | some z =>
    rw [q] at h3
    have k := Hold.go h3 st3 R3
    unfold slD at q
    split at q
    · rename_i ds ey
      rw [ey] at rx
      cases q
      simp only [Rep] at rx
      obtain ⟨c, vs, rfl, g1, g2⟩ := rx
      exact .inl ⟨c, vs, rfl, hK ▸ sl_of_rep g1, fun p hp => k.newL (g2.cut a b) hp⟩
    · rename_i ds ey
      rw [ey] at rx
      cases q
      have rx' := rx
      simp only [Rep] at rx
      obtain ⟨c, vs, rfl, g1, g2⟩ := rx
      refine .inr (.inl ⟨c, vs, rfl, hK ▸ sq_of_rep g1, fun hz => ?_, fun _ p hp => k.newT R3.dom (g2.cut a b) hp⟩)
      have e0 : cutD ds a b = ds := by
        unfold cutD
        rw [← g2.length, hz.1, hz.2, g2.length]
        simp
      rw [e0] at k
      exact k.val rx'
    · rename_i z ey
      rw [ey] at rx
      split at q
      · rename_i hz
        cases q
        exact .inr (.inr ⟨z, rep_str rx, hz, k.str⟩)
      · cases q
    · cases q

/-! ### isinstance -/
inductive Ty where
  | b (n : String) | o (c : Nat)
def tyD : D → Ty
  | .non => .b "NoneType"
  | .bl _ => .b "bool"
  | .int _ => .b "int"
  | .str _ => .b "str"
  | .tup _ => .b "tuple"
  | .lst _ => .b "list"
  | .dct _ _ => .b "dict"
  | .obj c _ => .o c
  | .scr _ => .b "list"
  | .cls _ => .b "type"
  | .exn _ _ _ => .b "exception"
  | .set _ => .b "set"
  | .dkf _ _ => .b "dict"
  | .dkt _ _ => .b "dict"
def Ty.v (w : Wd) : Ty → Value
  | .b n => .type n
  | .o c => .ref (w.cl c)
/-- what of the classes must be known -/
structure ClsOk (w : Wd) (n : Nat) : Prop where
  sc : ∀ c, c < n → SlX.SCls w.K (w.cl c)
  si : ∀ c, c < n → SlX.SIsi w.K (w.cl c)
def isT (n : Nat) (ans : Ty → Option Bool) (t : Ty) : Option Vl := match t with
  | .b t => (ans (.b t)).map dB
  | .o c => if c < n then (ans (.o c)).map dB else none
def isD (n : Nat) (ans : Ty → Option Bool) (d : D) : Option Vl := match d with
  | .cls _ => none
  | .exn _ _ _ => none
  | .set _ => none
  | .dkf _ _ => none
  | .dkt _ _ => none
  | d => isT n ans (tyD d)
def rIsA (K : PySem.W.Frag) (u : Value) : List V → Hp → VK → Prop := fun xs H Q => rIsi K xs H Q ∨ SlX.rIsiSl K u xs H Q
theorem call_isA (u : Value) : CallR X (.builtin "isinstance") (rIsA X.K u) := call_isi.or (SlX.call_isiSl u)
theorem isi_core {O : Av} {H : Hp} {n : Nat} {ans : Ty → Option Bool} {u : Value} {cv : V} {Q : VK} {d : D} {v : V} {z : Vl} (cok : ClsOk w n) (hcv : ClsV cv u) (hans : ∀ t b, ans t = some b → PySem.W.kitOne w.K (t.v w) u = some b) (h : Rep w O H d v) (e : isD n ans d = some z) (k : Go w O H z Q) : rIsA w.K u [v, cv] H Q := by
  have base : ∀ {t : String} {b : Bool}, TyX w.K H v (.type t) → ans (.b t) = some b → Go w O H (dB b) Q → rIsA w.K u [v, cv] H Q := fun {t b} ty ea kk => .inl ⟨v, cv, _, u, b, rfl, hcv, ty, hans _ b ea, kk.bl⟩
  unfold isD at e
  have go : ∀ {t : String}, (ans (.b t)).map dB = some z → TyX w.K H v (.type t) → rIsA w.K u [v, cv] H Q := fun {t} e ty => by
    cases q : ans (.b t) with
    | none => rw [q] at e; cases e
    | some b =>
      rw [q] at e
      cases e
      exact base ty q k
  cases d with
  | non => simp only [Rep] at h; subst h; exact go e (.base .non)
  | bl x => simp only [Rep] at h; subst h; exact go e (.base (.bl x))
  | int x => simp only [Rep] at h; subst h; exact go e (.base (.int x))
  | str x => simp only [Rep] at h; subst h; exact go e (.base (.str x))
  | tup ds =>
    simp only [Rep] at h
    obtain ⟨a, vs, rfl, h1 | ⟨o, its, n, h1, h2, _⟩, _⟩ := h
    · exact go e (.base (.tup h1.2))
    · exact go e (.kTuple h1 h2)
  | lst ds =>
    simp only [Rep] at h
    obtain ⟨a, vs, rfl, h1, _⟩ := h
    exact go e (.base (.lst h1.2))
  | scr ds =>
    simp only [Rep] at h
    obtain ⟨a, vs, rfl, ⟨o, h1⟩ | ⟨o, its, n, h1, h2, _⟩, _⟩ := h
    · exact go e (.base (.frz h1.2))
    · exact go e (.kList h1 h2)
  | dct ks ds =>
    simp only [Rep] at h
    obtain ⟨a, kvs, rfl, h1 | ⟨o, h1⟩, _⟩ := h
    · exact go e (.base (.dK h1.2))
    · exact go e (.fDict h1.2)
  | cls c => cases e
  | exn c ns ds => cases e
  | set xs => cases e
  | dkf ks ds => cases e
  | dkt ks ds => cases e
  | obj c fs =>
    simp only [Rep] at h
    obtain ⟨a, dx, vs, rfl, hne, _, _, h1, h2, _⟩ := h
    have e : (if c < n then (ans (.o c)).map dB else none) = some z := e
    split at e
    · rename_i hc
      cases q : ans (.o c) with
      | none => rw [q] at e; cases e
      | some b =>
        rw [q] at e
        cases e
        refine .inr ⟨a, w.cl c, dx, _, cv, b, rfl, ?_, fun x hx => hcv.eq hx, .inr ⟨h1, h2⟩, cok.sc c hc, cok.si c hc, hans _ b q, k.bl⟩
        cases hcv with
        | ty n => rfl
        | own C => rfl
    · cases e
theorem sim_isi {n : Nat} {ans : Ty → Option Bool} {u : Value} {cv : V} {te : TE} (cok : ClsOk w n) (hcv : ClsV cv u) (hans : ∀ t b, ans t = some b → PySem.W.kitOne w.K (t.v w) u = some b) (se : Sim w W te m) : Sim w W (tCB (rIsA w.K u) (tCons te (tCons (tC cv) tNil))) (mOp1 (isD n ans) m) := fun F O ρ σ H Q hw R hh => by
  subst hw
  refine se.bind rfl R hh fun x v ρ1 O1 H1 st1 R1 rx h1 => ?_
  cases e : isD n ans x.1 with
  | none => rw [e] at h1; exact h1.elim
  | some z =>
    rw [e] at h1
    exact isi_core cok hcv hans rx e (h1.go st1 R1)
/-- isinstance(e, T), T a built-in class -/
theorem pm_isiB {n : Nat} {ans : Ty → Option Bool} {T : String} {x : Str} (hK : w.K = X.K) (cok : ClsOk w n) (hans : ∀ t b, ans t = some b → PySem.W.kitOne w.K (t.v w) (.type T) = some b) (hg : Gl X "isinstance") (hm : X.mg "isinstance" = none) (hgT : Gl X x) (hmT : X.mg x = none) (hvT : bootBuiltins x = some (.type T)) (he : PM X w W e m)
    (hnT : x ≠ "__name__" := by decide) (hdT : (x == ("__debug__" : Str)) = false := by decide) (hs : starEach [e, .Name x p2] X.env = (false, eval e X.env) :: starEach [.Name x p2] X.env := by rfl) (hs2 : starEach [.Name x p2] X.env = (false, eval (.Name x p2) X.env) :: starEach [] X.env := by rfl)
    (hpl : (backTo pos (starEach [.Name x p2] X.env)).any (·.1) = false := by rfl) : PM X w W (.Call (.Name "isinstance" p) [e, .Name x p2] [] pos) (mOp1 (isD n ans) m) := by
  obtain ⟨te, pe, se⟩ := he
  refine ⟨_, pe_callB (call_isA (.type T)) hg hm (by decide +kernel) (pa_cons pe (pa_cons (pe_bltn (v := .ty T) hgT hmT hvT rfl hnT hdT) pa_nil hs2) hs) (by decide) (by decide) hs hpl, ?_⟩
  rw [← hK]
  exact sim_isi cok (.ty T) hans se
/-- isinstance(e, C), C a class of one's own -/
theorem pm_isiC {n : Nat} {ans : Ty → Option Bool} {C : Addr} {x : Str} (hK : w.K = X.K) (cok : ClsOk w n) (hans : ∀ t b, ans t = some b → PySem.W.kitOne w.K (t.v w) (.ref C) = some b) (hg : Gl X "isinstance") (hm : X.mg "isinstance" = none) (hgT : Gl X x) (hmT : X.mg x = some (.ref C)) (he : PM X w W e m)
    (hdT : (x == ("__debug__" : Str)) = false := by decide) (hs : starEach [e, .Name x p2] X.env = (false, eval e X.env) :: starEach [.Name x p2] X.env := by rfl) (hs2 : starEach [.Name x p2] X.env = (false, eval (.Name x p2) X.env) :: starEach [] X.env := by rfl)
    (hpl : (backTo pos (starEach [.Name x p2] X.env)).any (·.1) = false := by rfl) : PM X w W (.Call (.Name "isinstance" p) [e, .Name x p2] [] pos) (mOp1 (isD n ans) m) := by
  obtain ⟨te, pe, se⟩ := he
  refine ⟨_, pe_callB (call_isA (.ref C)) hg hm (by decide +kernel) (pa_cons pe (pa_cons (pe_glob (v := .ref C) hgT hmT rfl hdT) pa_nil hs2) hs) (by decide) (by decide) hs hpl, ?_⟩
  rw [← hK]
  exact sim_isi cok (.own C) hans se

/-! ### -x; in; is -/
def negD : D → Option Vl
  | .int i => some (dI (-i))
  | _ => none
theorem pm_neg (he : PM X w W e m) : PM X w W (.UnaryOp .USub e pos) (mOp1 negD m) := pm_un un_neg (fun O H x z vx Q dm e hx k => by
  unfold negD at e
  split at e
  · cases e
    exact ⟨_, rep_int hx, k.int⟩
  · cases e) he
end
end PM

namespace PM
open PySem L2

/-! ### a def's call, told by values -/
def fnN (f : Fn) (xs : List D) : Option Vl := match f none xs with
  | .ret z none => some z
  | _ => none
theorem sp_of {w : Wd} {O : Av} {H : Hp} {f : Fn} {xs : List D} {vs : List V} {z : Vl} {Q : VK} {E : XK} {k : Nat} (dm : Dm O H) (hl : xs.length = k) (e : fnN f xs = some z) (rs : RepL w O H xs vs) (g : Go w O H z Q) : spOf w k f vs H Q E := by
  refine ⟨O, none, xs, dm, by rw [rs.length]; exact hl, rs, ?_⟩
  unfold fnN at e
  split at e
  · rename_i x hx
    cases e
    rw [hx]
    refine ⟨rfl, fun H' v sy rf => ?_⟩
    have gr : Grow H H' := fun a o q => sy.kept a o (fun q => by cases q.1) q
    obtain ⟨d, b⟩ := z
    cases b with
    | false => exact g v H' gr rf.1
    | true =>
      obtain ⟨a, m, e1, e2, e3, e4, _⟩ := rf
      exact g v H' gr ⟨a, m, e1, e2, e3, e4⟩
  · cases e
def isObj (c : Nat) : D → Bool
  | .obj c' _ => c' == c
  | _ => false
theorem isObj_some {c : Nat} {d : D} (h : isObj c d = true) : ∃ fs, d = .obj c fs := by
  cases d <;> simp [isObj] at h
  subst h
  exact ⟨_, rfl⟩
theorem slt_of {w : Wd} {O : Av} {H : Hp} {c : Nat} {fs : List D} {v : V} (h : Rep w O H (.obj c fs) v) : ∃ a dx vs, v = .ref a ∧ SlX.Slt H a (w.cl c) dx (vs.map some) ∧ RepL w O H fs vs := by
  simp only [Rep] at h
  obtain ⟨a, dx, vs, rfl, hne, _, _, h1, h2, h3⟩ := h
  exact ⟨a, dx, vs, rfl, .inr ⟨h1, h2⟩, h3⟩
/-- a def that is a method: its place, how many arguments, how deep, what it is worth -/
def MthOk (P : Program) (wo : World) (K : PySem.W.Frag) (mg : Str → Option Value) (base : Heap) (w : Wd) (g : Addr) (n j : Nat) (f : Fn) : Prop := FnR P wo K mg base CX0 j g (spOf w n f)
theorem mth_of {P : Program} {wo : World} {K : PySem.W.Frag} {mg : Str → Option Value} {base : Heap} {w : Wd} {g : Addr} {j : Nat} {f : Fn} {fd : FuncData} {ps : List Str} (F : FnP false P wo K mg base j g fd ps (spOf w ps.length f)) (hb : Binds K fd ps []) : MthOk P wo K mg base w g ps.length j f := by
  have F : FnOk P wo K mg base CX0 j g fd ps (spOf w ps.length f) := F
  exact (F.raw hb .nil).imp fun vs H Q E h => by rw [List.append_nil]; exact h

/-! ### e.f, a slot -/
def fldD (ix : Nat → Option Nat) : D → Option Vl
  | .obj c fs => (ix c).bind fun i => (fs[i]?).map fun d => (d, false)
  | _ => none
def SlotsOk (w : Wd) (f : Str) (ix : Nat → Option Nat) : Prop := ∀ c i, ix c = some i → SlX.SCls w.K (w.cl c) ∧ ∃ p, SlX.Slot1 w.K (w.cl c) f p i
section
variable {w : Wd} {W : WX} {X : Cx} {pos pos' apos p : Pos} {e e' o : Expr} {es : List Expr} {m m' : ME} {mr : MA} {f : Str}
theorem pm_fld {ix : Nat → Option Nat} (hK : w.K = X.K) (hs : SlotsOk w f ix) (he : PM X w W e m) (hb : attributeBase e f X.env (eval e X.env) = eval e X.env := by rfl) : PM X w W (.Attribute e f pos) (mOp1 (fldD ix) m) := by
  obtain ⟨te, pe, se⟩ := he
  refine ⟨_, SlX.pe_sl pe hb, ?_⟩
  rw [← hK]
  refine sim_op1 (r := fun x H1 Q => ∃ a C dx p vs i v, x = .ref a ∧ SlX.Slt H1 a C dx vs ∧ SlX.SCls w.K C ∧ SlX.Slot1 w.K C f p i ∧ vs[i]? = some (some v) ∧ Q v H1) (fun O H x z vx Q dm ez hx k => ?_) se
  cases x with
  | obj c fs =>
    obtain ⟨a, dx, vs, rfl, hsl, hr⟩ := slt_of hx
    have ez : ((ix c).bind fun i => (fs[i]?).map fun d => ((d, false) : Vl)) = some z := ez
    cases q : ix c with
    | none => rw [q] at ez; cases ez
    | some i =>
      rw [q] at ez
      have ez : (fs[i]?).map (fun d => ((d, false) : Vl)) = some z := ez
      cases q2 : fs[i]? with
      | none => rw [q2] at ez; cases ez
      | some d =>
        rw [q2] at ez
        cases ez
        obtain ⟨v, e1, e2⟩ := hr.get q2
        obtain ⟨h1, p, h2⟩ := hs c i q
        exact ⟨a, w.cl c, dx, p, _, i, v, rfl, hsl, h1, h2, by rw [List.getElem?_map, e1]; rfl, k.val e2⟩
  | _ => cases ez

/-! ### e.f, a property; e.m(..) -/
def objN (c : Nat) (f : Fn) (xs : List D) : Option Vl := match xs with
  | x :: _ => if isObj c x = true then fnN f xs else none
  | [] => none
structure PropOk (w : Wd) (c : Nat) (f : Str) (g : Addr) : Prop where
  sc : SlX.SCls w.K (w.cl c)
  ex : ∃ p, PySem.W.findIn w.K (.ref (w.cl c)) f = some (some (.ref p)) ∧ PySem.W.specialIn w.K (.ref p) "__get__" = some (some (.builtin "property.__get__")) ∧ PySem.W.takesIn w.K (.ref p) = some true ∧ ∃ rest, PySem.W.recIn w.K p "property" = some (.ref g :: rest)
theorem pm_prop {c : Nat} {g : Addr} {n : Nat} {fn : Fn} (hK : w.K = X.K) (hp : PropOk w c f g) (F : MthOk X.prog X.w X.K X.mg X.base w g 1 n fn) (hr : Room (n + 1) X.A) (he : PM X w W e m) (hb : attributeBase e f X.env (eval e X.env) = eval e X.env := by rfl) :
    PM X w W (.Attribute e f pos) (mOp1 (fun x => objN c fn [x]) m) := by
  obtain ⟨te, pe, se⟩ := he
  obtain ⟨sc, p, h1, h2, h3, h4⟩ := hp
  rw [hK] at sc h1 h2 h3 h4
  refine ⟨_, SlX.pe_propSl (E := E0) pe sc h1 h2 h3 h4 F hr (fun _ _ _ _ z => z) hb, ?_⟩
  refine sim_op1 (r := fun x H1 Q => ∃ a dx vs, x = .ref a ∧ SlX.Slt H1 a (w.cl c) dx vs ∧ spOf w 1 fn [.ref a] H1 Q E0) (fun O H x z vx Q dm ez hx k => ?_) se
  unfold objN at ez
  simp only at ez
  split at ez
  · rename_i ho
    obtain ⟨fs, rfl⟩ := isObj_some ho
    obtain ⟨a, dx, vs, rfl, hsl, hrr⟩ := slt_of hx
    exact ⟨a, dx, _, rfl, hsl, sp_of dm rfl ez (by simp only [RepL]; exact ⟨.ref a, [], rfl, hx, rfl⟩) k⟩
  · cases ez
structure MethOk (w : Wd) (c : Nat) (f : Str) (g : Addr) : Prop where
  sc : SlX.SCls w.K (w.cl c)
  mt : Meth w.K (w.cl c) f g
def mMeth (c : Nat) (fn : Fn) (m : ME) (mr : MA) : ME := fun ρ => (m ρ).bind fun x ρ1 => if isObj c x.1 = true then (mr ρ1).bind fun xs ρ2 => lift (fnN fn (x.1 :: xs)) ρ2 else .stuck
/-! ### operators of one's own -/
def orD (f g : D → D → Option Vl) (x y : D) : Option Vl := match f x y with
  | some z => some z
  | none => g x y
theorem Op2.or {r r' : R2} {f g : D → D → Option Vl} (h : Op2 w r f) (h' : Op2 w r' g) : Op2 w (fun x y H Q => r x y H Q ∨ r' x y H Q) (orD f g) := fun O H x y z vx vy Q dm e hx hy k => by
  unfold orD at e
  split at e
  · rename_i z' q
    cases e
    exact .inl (h O H x y z vx vy Q dm q hx hy k)
  · exact .inr (h' O H x y z vx vy Q dm e hx hy k)
structure OpOk (w : Wd) (c : Nat) (nm : Str) (g : Addr) : Prop where
  sf : PySem.W.selfFirst w.K (w.cl c) = true
  at_ : PySem.W.findIn w.K (.ref (w.cl c)) nm = some (some (.ref g))
  fn : PySem.W.isFn w.K (.ref g) = true
end
end PM

namespace PM
open PySem PySem.Spec PyProof.Rows PySem.W

section
variable {prog : Program} {w : World} {A : Around} {E : Value → Shared → Prop} {s : Shared} {K : Frag} {x C L f : Addr} {h₀ : Heap} {m : Str → Option Value} {ox : Obj} {od : Option Obj} {b tb : Value}
end
end PM
namespace PM
open PySem L2
/-! ### ==, != with an instance on the left -/
inductive TyR (K : PySem.W.Frag) (H : Hp) : V → Value → Prop where
  | x {v : V} {t : Value} (h : TyX K H v t) : TyR K H v t
  | ins {b C dy : Addr} {ws : List (Option V)} (h : SlX.Slt H b C dy ws) : TyR K H (.ref b) (.ref C)
theorem TyR.looks {X : Cx} {pins : List (Addr × Obj)} {σ : L2.St} {H : Hp} {s : Shared} {v : V} {t u : Value} (I : Inv X pins σ H s) (h : TyR X.K H v t) (r : RelV v u) : PySem.W.Looks (model X.prog X.w) s.heap (typeOf u) t := by
  cases h with
  | x h =>
    obtain ⟨P, Z, p, _⟩ := kit_of I r h
    exact Z.ty _ _ I.kIn p
  | ins h =>
    cases r
    obtain ⟨sl, od, _, J, _⟩ := SlX.slt_inst I h
    exact J.type
section
variable {X : Cx} {C g : Addr} {sp : Sp} {n : Nat}
end
structure EqOk (w : Wd) (c : Nat) (g : Addr) : Prop where
  at_ : PySem.W.findIn w.K (.ref (w.cl c)) "__eq__" = some (some (.ref g))
  fn : PySem.W.isFn w.K (.ref g) = true
  ne : PySem.W.findIn w.K (.ref (w.cl c)) "__ne__" = some (some (.builtin "object.__ne__"))
  mr : PySem.W.mroIn w.K (w.cl c) (.type "object") = some true
  nf : ∀ t ∈ ["NoneType", "bool", "int", "str", "tuple", "list", "dict"], PySem.W.notFirst w.K (w.cl c) (.type t) = true
def flatR (c : Nat) : D → Bool
  | .non => true
  | .bl _ => true
  | .int _ => true
  | .str _ => true
  | .tup _ => true
  | .lst _ => true
  | .dct _ _ => true
  | .obj c' _ => c' == c
  | _ => false
def eqO (c : Nat) (f : Fn) (x y : D) : Option Vl := if isObj c x = true ∧ flatR c y = true then fnN f [x, y] else none
section
variable {w : Wd} {W : WX} {X : Cx} {pos : Pos} {e e' : Expr} {m m' : ME} {c n : Nat} {g : Addr} {fn : Fn}
end
end PM

namespace PM
open PySem PySem.Spec PyProof.Rows L2

/-! ### an instance that is being made: its slots -/
def putD : Nat → D → List (Option D) → List (Option D)
  | 0, d, [] => [some d]
  | 0, d, _ :: xs => some d :: xs
  | i + 1, d, [] => none :: putD i d []
  | i + 1, d, x :: xs => x :: putD i d xs
theorem putS_cons {i : Nat} {v : V} {x : Option V} {vs : List (Option V)} : SlX.putS (i + 1) v (x :: vs) = x :: SlX.putS i v vs := by
  unfold SlX.putS
  simp only [List.length_cons, List.cons_append, List.set_cons_succ, Nat.add_sub_add_right]
theorem putS_nil {i : Nat} {v : V} : SlX.putS (i + 1) v [] = none :: SlX.putS i v [] := by
  unfold SlX.putS
  simp [List.replicate_succ]
theorem putS_zero {v : V} {x : Option V} {vs : List (Option V)} : SlX.putS 0 v (x :: vs) = some v :: vs := by
  unfold SlX.putS
  simp
theorem RepO.put {w : Wd} {O : Av} {H : Hp} {d : D} {v : V} (h : Rep w O H d v) : ∀ (i : Nat) (ds : List (Option D)) (vs : List (Option V)), RepO w O H ds vs → RepO w O H (putD i d ds) (SlX.putS i v vs)
  | 0, [], vs, e => by
    cases (show vs = [] from e)
    exact ⟨v, [], rfl, h, rfl⟩
  | 0, x :: ds, vs, e => by
    cases x with
    | none =>
      obtain ⟨vs', rfl, e⟩ := e
      rw [putS_zero]
      exact ⟨v, vs', rfl, h, e⟩
    | some y =>
      obtain ⟨u, vs', rfl, _, e⟩ := e
      rw [putS_zero]
      exact ⟨v, vs', rfl, h, e⟩
  | i + 1, [], vs, e => by
    cases (show vs = [] from e)
    rw [putS_nil]
    exact ⟨_, rfl, RepO.put h i [] [] rfl⟩
  | i + 1, x :: ds, vs, e => by
    cases x with
    | none =>
      obtain ⟨vs', rfl, e⟩ := e
      rw [putS_cons]
      exact ⟨_, rfl, RepO.put h i ds vs' e⟩
    | some y =>
      obtain ⟨u, vs', rfl, h1, e⟩ := e
      rw [putS_cons]
      exact ⟨u, _, rfl, h1, RepO.put h i ds vs' e⟩
def allS : List (Option D) → Option (List D)
  | [] => some []
  | none :: _ => none
  | some d :: ds => (allS ds).map fun xs => d :: xs
theorem RepO.all {w : Wd} {O : Av} {H : Hp} : ∀ (ds : List (Option D)) (xs : List D) (vs : List (Option V)), RepO w O H ds vs → allS ds = some xs → ∃ us : List V, vs = us.map some ∧ RepL w O H xs us
  | [], xs, vs, h, e => by
    cases e
    exact ⟨[], h, by simp only [RepL]⟩
  | none :: ds, xs, vs, h, e => by cases e
  | some d :: ds, xs, vs, ⟨v, vs', e1, h1, h2⟩, e => by
    have e : (allS ds).map (fun xs => d :: xs) = some xs := e
    cases q : allS ds with
    | none => rw [q] at e; cases e
    | some ys =>
      rw [q] at e
      cases e
      obtain ⟨us, e2, h3⟩ := RepO.all ds ys vs' h2 q
      exact ⟨v :: us, by rw [e1, e2]; rfl, by simp only [RepL]; exact ⟨v, us, rfl, h1, h3⟩⟩
def fldS (i : Nat) (ix : Nat) (d : D) (ρ : En) : Option En := match muOf i ρ with
  | some (s, .ins c fs) => some (ρ.set i (s.put (.ins c (putD ix d fs))))
  | _ => none
structure SetOk (w : Wd) (c : Nat) (f : Str) (ix : Nat) : Prop where
  sc : SlX.SCls w.K (w.cl c)
  sl : ∃ p, SlX.Slot1 w.K (w.cl c) f p ix
def clsAt (i c : Nat) (ρ : En) : Bool := match muOf i ρ with
  | some (_, .ins c' _) => c' == c
  | _ => false
section
variable {w : Wd} {W : WX} {X : Cx} {pos pos' p : Pos} {e : Expr} {m : ME} {x f : Str}
theorem slH_mut {O : Av} {ρ ρ1 : En} {σ : L2.St} {H : Hp} {F : Fr} {i ix c : Nat} {d : D} {v : V} (R : Rel F O ρ σ H) (hc : clsAt i c ρ = true) (h : Rep F.w O H d v) (e : fldS i ix d ρ = some ρ1) :
    ∃ a dx vs, σ[i]? = some (some (.ref a)) ∧ SlX.Slt H a (F.w.cl c) dx vs ∧ Rel F O ρ1 σ (SlX.slH H a (F.w.cl c) dx (SlX.putS ix v vs)) ∧ Step O H O (SlX.slH H a (F.w.cl c) dx (SlX.putS ix v vs)) := by
  unfold fldS at e
  unfold clsAt at hc
  cases q : muOf i ρ with
  | none => rw [q] at e; cases e
  | some sm =>
    obtain ⟨s, mu⟩ := sm
    rw [q] at e hc
    cases mu with
    | lst _ => cases e
    | dct _ _ => cases e
    | dkt _ _ => cases e
    | ins c' fs =>
      have hc : c' = c := by simpa using hc
      subst hc
      cases e
      obtain ⟨e1, g1⟩ := muOf_some q
      obtain ⟨a, ea, oa, dx, vs, h1, h2, h3, h4, h5⟩ := R.muAt e1 g1
      have hk : ∀ b o, b ≠ a → H b = some o → SlX.slH H a (F.w.cl c') dx (SlX.putS ix v vs) b = some o := fun b o n z => by
        by_cases hb : b = dx
        · subst hb
          rw [h4] at z
          cases z
          unfold SlX.slH
          rw [upd_ne h2, upd_same]
        · rw [SlX.slH_ne n hb]
          exact z
      have dm : ∀ b, H b ≠ none → SlX.slH H a (F.w.cl c') dx (SlX.putS ix v vs) b ≠ none := fun b z => by
        by_cases hb : b = a
        · subst hb
          unfold SlX.slH
          rw [upd_same]
          simp
        · cases z2 : H b with
          | none => exact absurd z2 z
          | some o => rw [hk b o hb z2]; simp
      have st : Step O H O (SlX.slH H a (F.w.cl c') dx (SlX.putS ix v vs)) := ⟨fun _ z => .inl z, fun b o n z => hk b o (fun z2 => n (by rw [z2]; exact oa)) z, dm⟩
      refine ⟨a, dx, vs, ea, .inr ⟨h1, h4⟩, ?_, st⟩
      refine R.mutG e1 g1 ea hk st (fun _ z => z) (fun b z => dm b (R.dom b z)) ⟨dx, SlX.putS ix v vs, ?_, h2, h3, hk _ _ h2 h4, RepO.put (Rep.step st d v h) ix fs vs (RepO.step st fs vs h5)⟩
      unfold SlX.slH
      rw [upd_same]
/-- self.f = e -/
def mSetF (i c ix : Nat) (m : ME) : MS := fun ρ => (m ρ).bind fun y ρ1 => if clsAt i c ρ1 = true then nxt (fldS i ix y.1 ρ1) else .stuck
theorem pms_fld {i c ix : Nat} (hK : w.K = X.K) (hp : SetOk w c f ix) (he : PM X w W e m) (hN : X.N[i]? = some x := by rfl) (hv : Vis X.env.scope x := by first | exact Or.inl rfl | exact Or.inr (Or.inl rfl) | exact Or.inr (Or.inr rfl)) (hd : (x == ("__debug__" : Str)) = false := by decide)
    (hcd : (x == ("__classdict__" : Str)) = false := by decide) (hs : swapsWith e (some (.Attribute (.Name x p) f pos')) pos.line X.env = pure false := by rfl) : PMS X w W (.Assign [.Attribute (.Name x p) f pos'] e pos) (mSetF i c ix m) := by
  obtain ⟨te, pe, se⟩ := he
  refine ⟨_, SlX.ps_sl (pe_var hN hv hd hcd) pe hs, fun F O ρ σ H E hw R hh => ?_⟩
  subst hw
  refine se.bindS rfl R hh fun y v ρ1 O1 H1 st1 R1 rv h1 => ?_
  obtain ⟨O2, s2, R2, r2, s3⟩ := VlAt.release st1 R1 R.doh rv
  split at h1
  · rename_i hc
    cases q : fldS i ix y.1 ρ1 with
    | none => rw [q] at h1; exact h1.elim
    | some ρ2 =>
      rw [q] at h1
      obtain ⟨a, dx, vs, ea, hsl, R3, s4⟩ := slH_mut R2 hc r2 q
      obtain ⟨hsc, pp, hs1⟩ := hp
      rw [hK] at hsc hs1
      exact ⟨.ref a, ea, a, _, dx, pp, vs, ix, rfl, hsl, hsc, hs1, h1 O2 σ _ (s3.trans s4) R3⟩
  · exact h1.elim

/-! ### self.f, self.g, .. = e -/
def gFld (K : PySem.W.Frag) (i : Nat) (f : Str) : TG := fun y σ H Q => ∃ a C dx p vs j, σ[i]? = some (some (.ref a)) ∧ SlX.Slt H a C dx vs ∧ SlX.SCls K C ∧ SlX.Slot1 K C f p j ∧ Q σ (SlX.slH H a C dx (SlX.putS j y vs))
theorem pg_fld {i : Nat} (hN : X.N[i]? = some x) (hv : Vis X.env.scope x) (hd : (x == ("__debug__" : Str)) = false) (hcd : (x == ("__classdict__" : Str)) = false) : PG X (.Attribute (.Name x p) f pos') (gFld X.K i f) := by
  refine ⟨fun pins s σ H v u Q I r h => ?_⟩
  obtain ⟨a, C, dx, pp, vs, j, ea, hsl, hsc, hs1, q⟩ := h
  refine PySem.W.kas_attr (thn ((pe_var (pos := p) hN hv hd hcd).run pins s σ H (fun z H1 => z = .ref a ∧ H1 = H) I ⟨.ref a, ea, rfl, rfl⟩) fun ov s1 hz => ?_)
  obtain ⟨z, H1, I1, rz, e1, e2⟩ := hz
  subst e1
  subst e2
  obtain rfl : ov = Value.ref a := rz
  exact SlX.setslot_ok I1 hsl hsc hs1 r fun s3 I3 => ⟨σ, _, I3, q⟩
def fldsS (i c : Nat) : List Nat → List D → En → Option En
  | [], [], ρ => some ρ
  | j :: js, d :: ds, ρ => if clsAt i c ρ = true then (fldS i j d ρ).bind fun ρ1 => fldsS i c js ds ρ1 else none
  | _, _, _ => none
def SimFs (w : Wd) (i c : Nat) (js : List Nat) (g : TGs) : Prop := ∀ (F : Fr) (O : Av) (ρ ρ1 : En) (σ : L2.St) (H : Hp) (vs : List V) (ds : List D) (Q : L2.St → Hp → Prop), F.w = w → Rel F O ρ σ H → RepL F.w O H ds vs → fldsS i c js ds ρ = some ρ1 → (∀ H1, Step O H O H1 → Rel F O ρ1 σ H1 → Q σ H1) → g vs σ H Q
def PMFs (X : Cx) (w : Wd) (i c : Nat) (es : List Expr) (js : List Nat) : Prop := ∃ g, PGs X es g ∧ SimFs w i c js g
theorem pmfs_nil {i c : Nat} : PMFs X w i c [] [] := ⟨_, pgs_nil, fun F O ρ ρ1 σ H vs ds Q hw R h e k => by
  cases ds with
  | nil =>
    simp only [RepL] at h
    cases e
    exact ⟨h, k H (Step.refl _ _) R⟩
  | cons d ds => cases e⟩
theorem pmfs_cons {i c j : Nat} {js : List Nat} {es : List Expr} (hK : w.K = X.K) (hp : SetOk w c f j) (h2 : PMFs X w i c es js) (hN : X.N[i]? = some x := by rfl) (hv : Vis X.env.scope x := by first | exact Or.inl rfl | exact Or.inr (Or.inl rfl) | exact Or.inr (Or.inr rfl)) (hd : (x == ("__debug__" : Str)) = false := by decide)
    (hcd : (x == ("__classdict__" : Str)) = false := by decide) (hs : (assignEach (.Attribute (.Name x p) f pos' :: es) X.env).map (·.2) = assign (.Attribute (.Name x p) f pos') X.env :: (assignEach es X.env).map (·.2) := by rfl) : PMFs X w i c (.Attribute (.Name x p) f pos' :: es) (j :: js) := by
  obtain ⟨g2, p2, s2⟩ := h2
  refine ⟨_, pgs_cons (pg_fld hN hv hd hcd) p2 hs, fun F O ρ ρ1 σ H vs ds Q hw R h ee k => ?_⟩
  subst hw
  cases ds with
  | nil => cases ee
  | cons d ds =>
    simp only [RepL] at h
    obtain ⟨v, vs', rfl, r1, r2⟩ := h
    have ee : (if clsAt i c ρ = true then (fldS i j d ρ).bind fun ρ1 => fldsS i c js ds ρ1 else none) = some ρ1 := ee
    split at ee
    · rename_i hc
      cases q : fldS i j d ρ with
      | none => rw [q] at ee; cases ee
      | some ρ2 =>
        rw [q] at ee
        obtain ⟨a, dx, us, ea, hsl, R3, s4⟩ := slH_mut R hc r1 q
        obtain ⟨hsc, pp, hs1⟩ := hp
        rw [hK] at hsc hs1
        exact ⟨v, vs', rfl, a, _, dx, pp, us, j, ea, hsl, hsc, hs1, s2 F O ρ2 ρ1 σ _ vs' ds Q rfl R3 (RepL.step s4 ds vs' r2) ee fun H1 s5 R5 => k H1 (s4.trans s5) R5⟩
    · cases ee
def fldsT (i c : Nat) (js : List Nat) (d : D) (ρ : En) : Option En := match d with
  | .tup ds => if ds.length = js.length then fldsS i c js ds ρ else none
  | _ => none
def mSetFs (i c : Nat) (js : List Nat) (m : ME) : MS := fun ρ => (m ρ).bind fun y ρ1 => nxt (fldsT i c js y.1 ρ1)
theorem pms_flds {i c : Nat} {js : List Nat} {es : List Expr} {k : Nat} {pt : Pos} (hK : w.K = X.K) (hc : X.calm = true) (he : PM X w W e m) (h : PMFs X w i c es js) (hn : (assignEach es X.env).length = js.length := by rfl) (hst : (assignEach es X.env).findIdx? (·.1) = none := by rfl)
    (hs : swapsWithSole [.Tuple es k pt] e pos.line X.env = pure false := by rfl) (hsw : swappedStores [.Tuple es k pt] e X.env = pure none := by rfl) (h1 : (assignEach [.Tuple es k pt] X.env).map (·.2) = [assign (.Tuple es k pt) X.env] := by rfl) : PMS X w W (.Assign [.Tuple es k pt] e pos) (mSetFs i c js m) := by
  obtain ⟨te, pe, se⟩ := he
  obtain ⟨g, pg, sg⟩ := h
  refine ⟨_, ps_asg pe (pg_tup hc pg hn hst) hs hsw h1, fun F O ρ σ H E hw R hh => ?_⟩
  subst hw
  refine se.bindS rfl R hh fun y v ρ1 O1 H1 st1 R1 rv h1 => ?_
  obtain ⟨O2, s2, R2, r2, s3⟩ := VlAt.release st1 R1 R.doh rv
  cases q : fldsT i c js y.1 ρ1 with
  | none => rw [q] at h1; exact h1.elim
  | some ρ2 =>
    rw [q] at h1
    unfold fldsT at q
    split at q
    · rename_i ds ey
      split at q
      · rename_i hl
        rw [ey] at r2
        simp only [Rep] at r2
        obtain ⟨a, vs, rfl, h3, h4⟩ := r2
        refine ⟨a, vs, rfl, ?_, by rw [h4.length]; exact hl, sg F O2 ρ1 ρ2 σ H1 vs ds _ rfl R2 h4 q fun H2 s5 R5 => h1 O2 σ H2 (s3.trans s5) R5⟩
        rw [← hK]
        exact sq_of_rep h3
      · cases q
    · cases q
end

/-! ### the body of __init__: the new instance -/
def tRe (C : Addr) (t : TS) : TS := fun Z σ H => ∃ x dx, σ[(0 : Nat)]? = some (some (.ref x)) ∧ SlX.Slt H x C dx [] ∧ t Z σ (SlX.slH H x C dx [])
theorem pss_re {X : Cx} {body : List Stmt} {t : TS} {C : Addr} (h : PSs X body t) : PSs X body (tRe C t) := by
  refine ⟨fun pins s σ H Z I hh => ?_⟩
  obtain ⟨x, dx, _, hsl, q⟩ := hh
  obtain ⟨ne, sl, mA, e0, r0, n, qn⟩ := SlX.slt_at I hsl
  have I2 : Inv X pins σ (SlX.slH H x C dx []) s := SlX.inv_slot (h' := s.heap) (t' := s.toks) I hsl (fun _ _ _ _ z => z) (fun _ z => z) e0 r0
  exact h.run pins s σ _ Z I2 q
/-- what __init__ is worth: called with a new instance -/
def spIn (w : Wd) (c k : Nat) (f : Fn) : Sp := fun vs H Q E => ∃ x dx vs', vs = .ref x :: vs' ∧ SlX.Slt H x (w.cl c) dx [] ∧ spOf w k f vs (SlX.slH H x (w.cl c) dx []) Q E
section
variable {P : Program} {wo : World} {K : PySem.W.Frag} {mg : Str → Option Value} {base : Heap} {w : Wd}
theorem init_ok0 (hT : w.T = []) {c : Nat} {x qual : Str} {st : Stmt} {f : Addr} {fd : FuncData} {N ps : List Str} {k : Nat} {m : MS} (F : Fun K x qual st f fd) (S : FnScope N ps (defScope st)) (hl : ps.length ≤ N.length)
    (hb : ∀ (cdv : Value) (A : Around) (outer : List Env) (s : Shared) (H : Hp) (E : XK), Room k (A.deeper (envOfC qual (defScope st) s.heap.objs.size f cdv)) →
      PMSs (cxOf CX0 P wo K mg base N qual (defScope st) f cdv A outer s H E).nox w W0 (defBody st) m) : FnOk P wo K mg base CX0 (k + 1) f fd ps (spIn w c ps.length (noX (fnSem N.length ps.length m))) := by
  have len : ∀ vs H Q E, spIn w c ps.length (noX (fnSem N.length ps.length m)) vs H Q E → vs.length = ps.length := fun vs H Q E h => by
    obtain ⟨x, dx, vs', _, _, O, om, ds, _, hl, _⟩ := h
    exact hl
  refine F.ok S len fun cdv A outer s H vs Q E hr h => ?_
  obtain ⟨t, p, sm⟩ := hb cdv A outer s H E hr
  obtain ⟨x, dx, vs', rfl, hsl, h⟩ := h
  refine ⟨_, pss_re (C := w.cl c) p, x, dx, ?_, hsl, body_ok hT (E := fun _ _ _ => False) sm (fun _ _ _ _ z => z) hl (noX_hold h)⟩
  exact start_get (by rfl)
end

/-! ### C(..) -/
def mkF (c : Nat) (f : Fn) (xs : List D) : Option Vl := match f (some (.ins c [])) xs with
  | .ret (.non, false) (some (.ins c' fs)) => if c' = c then (allS fs).map fun ds => (.obj c ds, false) else none
  | _ => none
/-- the class c, its __init__ -/
structure MkOk (P : Program) (wo : World) (K : PySem.W.Frag) (mg : Str → Option Value) (base : Heap) (w : Wd) (c n j : Nat) (f : Fn) : Prop where
  ex : ∃ g fd ps, ps.length = n + 1 ∧ Mk K (w.cl c) g ∧ FnOk P wo K mg base CX0 j g fd ps (spIn w c (n + 1) f) ∧ Binds K fd ps []
section
variable {w : Wd} {W : WX} {X : Cx} {pos p : Pos} {e : Expr} {es : List Expr} {mr : MA} {x : Str} {c n k : Nat} {fn : Fn}
theorem make_core {O : Av} {H : Hp} {xs : List D} {vs : List V} {z : Vl} {Q : VK} {E : XK} (dm : Dm O H) (hl : xs.length = n) (e : mkF c fn xs = some z) (rs : RepL w O H xs vs) (g : Go w O H z Q) :
    ∀ x dx, H x = none → H dx = none → dx ≠ x → spIn w c (n + 1) fn (V.ref x :: vs) (upd (upd H dx (.own x)) x (.ins (w.cl c) dx [])) (fun v H2 => v = .non ∧ Q (.ref x) H2) E := by
  intro x dx hx hdx ne
  refine ⟨x, dx, vs, rfl, .inl ⟨upd_same, rfl⟩, ?_⟩
  generalize hH : SlX.slH (upd (upd H dx (.own x)) x (.ins (w.cl c) dx [])) x (w.cl c) dx [] = H3
  have e1 : H3 x = some (SlX.SlO x (w.cl c) dx []) := by rw [← hH]; unfold SlX.slH; rw [upd_same]
  have e2 : H3 dx = some (.xd []) := by rw [← hH]; unfold SlX.slH; rw [upd_ne ne, upd_same]
  have gr : Grow H H3 := fun a o q => by
    have n1 : a ≠ x := fun z => by rw [z, hx] at q; cases q
    have n2 : a ≠ dx := fun z => by rw [z, hdx] at q; cases q
    rw [← hH, SlX.slH_ne n1 n2, upd_ne n1, upd_ne n2]
    exact q
  have nox : ¬ O x := fun q => dm x q hx
  have nodx : ¬ ins O x dx := fun q => q.elim (fun q => dm dx q hdx) ne
  refine ⟨ins O x, some (.ins c []), xs, fun a q => ?_, by rw [List.length_cons, rs.length, hl], ⟨x, vs, rfl, .inr rfl, ⟨dx, [], e1, ne, nodx, e2, rfl⟩, RepL.step (ins_step gr hx) xs vs rs⟩, ?_⟩
  · rcases q with q | q
    · exact gr.dom (dm a q)
    · rw [q, e1]; simp
  · unfold mkF at e
    split at e
    · rename_i c' fs hf
      rw [hf]
      split at e
      · rename_i hc
        subst hc
        refine ⟨rfl, fun H' v sy rf => ?_⟩
        obtain ⟨r1, a, ha, r2⟩ := rf
        simp only [Rep] at r1
        cases (show some (V.ref x) = some (.ref a) from ha)
        refine ⟨r1, ?_⟩
        obtain ⟨dx', us, h1, h2, h3, h4, h5⟩ := r2
        cases q : allS fs with
        | none => rw [q] at e; cases e
        | some ds =>
          rw [q] at e
          cases e
          obtain ⟨ws, rfl, h6⟩ := RepO.all fs ds us h5 q
          refine g (.ref x) H' (fun a o q => sy.kept a o (fun z => ?_) (gr a o q)) ?_
          · have z2 := z.2
            simp at z2
            rw [← z2, hx] at q
            cases q
          · show Rep w O H' (.obj c' ds) (.ref x)
            simp only [Rep]
            exact ⟨x, dx', ws, rfl, h2, nox, fun q => h3 (.inl q), h1, h4, RepL.step (mono_step fun a q => .inl q) ds ws h6⟩
      · cases e
    · cases e
def mMake (c : Nat) (f : Fn) (mr : MA) : ME := mCall (mkF c f) mr
theorem sim_make {t : TA} (hr : SimA w W t mr) (hn : ∀ (ρ ρ1 : En) (xs : List D), mr ρ = .ok xs ρ1 → xs.length = n) : Sim w W (tMake (w.cl c) (spIn w c (n + 1) fn) [] E0 t) (mMake c fn mr) := fun F O ρ σ H Q hw R hh => by
  subst hw
  have key : Hold F W O σ H (RV F σ H) Q ((mr ρ).bind fun xs ρ1 => if xs.length = n then lift (mkF c fn xs) ρ1 else .stuck) := by
    unfold mMake mCall at hh
    cases q : mr ρ with
    | ok xs ρ1 =>
      rw [q] at hh
      show Hold F W O σ H (RV F σ H) Q (if xs.length = n then _ else _)
      rw [if_pos (hn ρ ρ1 xs q)]
      exact hh
    | exc x ρ1 => rw [q] at hh; exact hh
    | stuck => rw [q] at hh; exact hh
  refine hr.bind rfl R key fun xs vs ρ1 O1 H1 st1 R1 rs h1 => ?_
  split at h1
  · rename_i hl
    cases q : mkF c fn xs with
    | none => rw [q] at h1; exact h1.elim
    | some z =>
      rw [q] at h1
      intro x dx hx hdx ne
      rw [List.append_nil]
      exact make_core R1.dom hl q rs (h1.go st1 R1) x dx hx hdx ne
  · exact h1.elim
theorem pm_make (M : MkOk X.prog X.w X.K X.mg X.base w c n k fn) (hr : Room (k + 1) X.A) (hg : Gl X x) (hm : X.mg x = some (.ref (w.cl c))) (ha : PMA X w W (e :: es) mr) (hn : Len mr n) (hdb : (x == ("__debug__" : Str)) = false := by decide)
    (he : starEach (e :: es) X.env = (false, eval e X.env) :: starEach es X.env := by rfl) (hpl : (backTo pos (starEach es X.env)).any (·.1) = false := by rfl) : PM X w W (.Call (.Name x p) (e :: es) [] pos) (mMake c fn mr) := by
  obtain ⟨g, fd, ps, hl, M, F, hb⟩ := M.ex
  obtain ⟨ta, pa, sa⟩ := ha
  exact ⟨_, pe_make M F hr hg hm hb .nil pass0 pa hdb he hpl, sim_make sa fun ρ ρ1 xs q => hn ρ ρ1 xs q⟩
/-- cls(..), cls a name that holds the class -/
def mMakeL (i c : Nat) (f : Fn) (mr : MA) : ME := fun ρ => match ρ[i]? with
  | some (.val (.cls c')) => if c' = c then mMake c f mr ρ else .stuck
  | _ => .stuck
def tMakeL (i : Nat) (C : Addr) (t : TE) : TE := fun σ H Q => σ[i]? = some (some (.ref C)) ∧ t σ H Q
theorem pe_makeL {i : Nat} {C f : Addr} {fd : FuncData} {ps : List Str} {sp : Sp} {E : XK} {t : TA} (M : Mk X.K C f) (F : FnOk X.prog X.w X.K X.mg X.base CX0 k f fd ps sp) (hr : Room (k + 1) X.A) (hN : X.N[i]? = some x) (hv : Vis X.env.scope x) (hb : Binds X.K fd ps []) (hx : Passes CX0 X E) (ha : PA X (e :: es) t)
    (hdb : (x == ("__debug__" : Str)) = false) (hcd : (x == ("__classdict__" : Str)) = false) (he : starEach (e :: es) X.env = (false, eval e X.env) :: starEach es X.env) (hpl : (backTo pos (starEach es X.env)).any (·.1) = false) :
    PE X (.Call (.Name x p) (e :: es) [] pos) (tMakeL i C (tMake C sp [] E t)) := by
  refine ⟨fun pins s σ H Q I hw => ?_⟩
  obtain ⟨hs, ht⟩ := hw
  refine wpAny_Call_Name_kw (thn ((pe_var (pos := p) hN hv hdb hcd).run pins s σ H (fun v H1 => v = .ref C ∧ H1 = H) I ⟨.ref C, hs, rfl, rfl⟩) fun u s1 hz => ?_)
  obtain ⟨v, H1, I1, r1, e1, e2⟩ := hz
  subst e1
  subst e2
  obtain rfl : u = Value.ref C := r1
  refine PySem.W.callWith_K (h₀ := X.base) I.ok.mod.kin M.kp (thn (ha.run pos pins s1 σ _ _ I1 ht) fun us s2 hz => ?_) he hpl
  obtain ⟨vs, H2, I2, r, q⟩ := hz
  exact ⟨I2.kIn, run_make M F hr hb .nil hx I2 r q⟩
theorem pm_makeL {i : Nat} (M : MkOk X.prog X.w X.K X.mg X.base w c n k fn) (hr : Room (k + 1) X.A) (ha : PMA X w W (e :: es) mr) (hn : Len mr n) (hN : X.N[i]? = some x := by rfl) (hv : Vis X.env.scope x := by first | exact Or.inl rfl | exact Or.inr (Or.inl rfl) | exact Or.inr (Or.inr rfl)) (hdb : (x == ("__debug__" : Str)) = false := by decide)
    (hcd : (x == ("__classdict__" : Str)) = false := by decide) (he : starEach (e :: es) X.env = (false, eval e X.env) :: starEach es X.env := by rfl) (hpl : (backTo pos (starEach es X.env)).any (·.1) = false := by rfl) : PM X w W (.Call (.Name x p) (e :: es) [] pos) (mMakeL i c fn mr) := by
  obtain ⟨g, fd, ps, hl, M, FO, hb⟩ := M.ex
  obtain ⟨ta, pa, sa⟩ := ha
  refine ⟨_, pe_makeL M FO hr hN hv hb pass0 pa hdb hcd he hpl, fun F O ρ σ H Q hw R hh => ?_⟩
  subst hw
  unfold mMakeL at hh
  split at hh
  · rename_i c' q
    split at hh
    · rename_i hc
      subst hc
      obtain ⟨v, e1, e2⟩ := R.slot i _ q
      simp only [Rep] at e2
      subst e2
      exact ⟨e1, sim_make sa (fun ρ ρ1 xs q => hn ρ ρ1 xs q) F O ρ σ H Q rfl R hh⟩
    · exact hh.elim
  · exact hh.elim

/-! ### C.m(..), m a classmethod -/
structure CmOk (w : Wd) (c : Nat) (f : Str) (g : Addr) : Prop where
  ex : ∃ mc p, ClX.CRead w.K (w.cl c) mc ∧ ClX.CMet w.K (w.cl c) mc f p g
def mCm (c : Nat) (f : Fn) (mr : MA) : ME := mCall (fun xs => fnN f (.cls c :: xs)) mr
theorem pe_cmeth0 {C q g : Addr} {mc : Value} {sp : Sp} {E : XK} {o : Expr} {m : Str} {apos : Pos} {ta : TE} {pl : Sem Bool} (he : PE X o ta) (r : ClX.CRead X.K C mc) (cm : ClX.CMet X.K C mc m q g) (F : FnR X.prog X.w X.K X.mg X.base CX0 k g sp) (hr : Room k X.A) (hx : Passes CX0 X E)
    (ht : eval (.Call (.Attribute o m apos) [] [] pos) X.env = (do
      let ov ← eval o X.env
      standAt apos.atName
      let (f, first) ← holding [ov] (getMethod ov m pl)
      callWith pos f first (backTo pos (starEach [] X.env)) (backToKw pos (keywordEach [] X.env))) := by rfl) :
    PE X (.Call (.Attribute o m apos) [] [] pos) (ClX.tCMeth C sp E ta tNil) := by
  refine ⟨fun pins s σ H Q I hw => ?_⟩
  refine PySem.W.methodCall_KW (pl := pl) (thn (he.run pins s σ H _ I hw) fun u s1 hz => ?_) ht
  obtain ⟨y, H1, I1, rx, ex, q2⟩ := hz
  subst ex
  obtain rfl : u = Value.ref C := rx
  refine ClX.getmethcm_ok I1 r cm fun s2 I2 => ?_
  exact PySem.W.callWith_M0 ⟨ClX.pin_at I2, I2.kIn⟩ cm.fi (ClX.run_cm F hr hx I2 .nil q2)
theorem sim_cm {t : TA} (hr : SimA w W t mr) (hn : ∀ (ρ ρ1 : En) (xs : List D), mr ρ = .ok xs ρ1 → xs.length = n) : Sim w W (ClX.tCMeth (w.cl c) (spOf w (n + 1) fn) E0 (tC (.ref (w.cl c))) t) (mCm c fn mr) := fun F O ρ σ H Q hw R hh => by
  subst hw
  refine ⟨rfl, ?_⟩
  have key : Hold F W O σ H (RV F σ H) Q ((mr ρ).bind fun xs ρ1 => if xs.length = n then lift (fnN fn (.cls c :: xs)) ρ1 else .stuck) := by
    unfold mCm mCall at hh
    cases q : mr ρ with
    | ok xs ρ1 =>
      rw [q] at hh
      show Hold F W O σ H (RV F σ H) Q (if xs.length = n then _ else _)
      rw [if_pos (hn ρ ρ1 xs q)]
      exact hh
    | exc x ρ1 => rw [q] at hh; exact hh
    | stuck => rw [q] at hh; exact hh
  refine hr.bind rfl R key fun xs vs ρ1 O1 H1 st1 R1 rs h1 => ?_
  split at h1
  · rename_i hl
    cases q : fnN fn (.cls c :: xs) with
    | none => rw [q] at h1; exact h1.elim
    | some z =>
      rw [q] at h1
      exact sp_of R1.dom (by simp [hl]) q (by simp only [RepL, Rep]; exact ⟨_, vs, rfl, rfl, rs⟩) (h1.go st1 R1)
  · exact h1.elim
theorem pm_cm0 {g : Addr} {o m : Str} {apos po : Pos} {pl : Sem Bool} (hK : w.K = X.K) (hp : CmOk w c m g) (F : MthOk X.prog X.w X.K X.mg X.base w g 1 k fn) (hr : Room k X.A) (hg : Gl X o) (hm : X.mg o = some (.ref (w.cl c))) (hd : (o == ("__debug__" : Str)) = false := by decide)
    (ht : eval (.Call (.Attribute (.Name o po) m apos) [] [] pos) X.env = (do
      let ov ← eval (.Name o po) X.env
      standAt apos.atName
      let (f, first) ← holding [ov] (getMethod ov m pl)
      callWith pos f first (backTo pos (starEach [] X.env)) (backToKw pos (keywordEach [] X.env))) := by rfl) : PM X w W (.Call (.Attribute (.Name o po) m apos) [] [] pos) (mCm c fn mNil) := by
  obtain ⟨mc, p, r, cm⟩ := hp.ex
  rw [hK] at r cm
  exact ⟨_, pe_cmeth0 (pl := pl) (pe_glob (v := .ref (w.cl c)) hg hm rfl hd) r cm F hr pass0 ht, sim_cm sima_nil fun ρ ρ1 xs q => by cases q; rfl⟩
end
end PM

namespace PM
open PySem PySem.Spec PyProof.Rows L2

/-! ### x == (), x != () -/
def rEq0 (K : PySem.W.Frag) : R2 := fun x y H Q => ∃ a b xs, x = .ref a ∧ y = .ref b ∧ SqT K H a xs ∧ SqT K H b [] ∧ Q (.bl xs.isEmpty) H
def eq0 : D → D → Option Vl
  | .tup xs, .tup [] => some (dB xs.isEmpty)
  | _, _ => none
section
variable {w : Wd} {W : WX} {X : Cx} {pos p : Pos} {a b e : Expr} {ma mb m : ME} {mr : MA}
theorem op_eq0 (hu : X.A.units < cLine) : OpR X (compareOp .Eq) (rEq0 X.K) := by
  intro pins s σ H x y v u Q I rx ry h
  obtain ⟨l, b, xs, rfl, rfl, h1, h2, q⟩ := h
  cases (show v = Value.ref l from rx)
  cases (show u = Value.ref b from ry)
  obtain ⟨its, rv, t1, z1⟩ := I.tuple h1
  obtain ⟨its2, rv2, t2, z2⟩ := I.tuple h2
  cases rv2
  refine SeqAt.RcAt.tuples (e := fun _ => true) (show s.heap.IsTuple l its.toArray from t1) (show s.heap.IsTuple b #[] from t2) hu (fun j j1 j2 => absurd j2 (by simp)) X.prog X.w _ _ ?_
  refine ⟨.bl xs.isEmpty, H, I, ?_, q⟩
  have hl := rv.length
  show Value.bool _ = Value.bool _
  congr 1
  cases xs with
  | nil => cases rv; rfl
  | cons x xs => cases rv; rfl
theorem o2_eq0 : Op2 w (rEq0 w.K) eq0 := fun O H x y z vx vy Q dm e hx hy k => by
  unfold eq0 at e
  split at e
  · rename_i xs
    cases e
    simp only [Rep] at hx hy
    obtain ⟨a, vs, rfl, h1, h2⟩ := hx
    obtain ⟨b, us, rfl, h3, h4⟩ := hy
    simp only [RepL] at h4
    subst h4
    refine ⟨a, b, vs, rfl, rfl, sq_of_rep h1, sq_of_rep h3, ?_⟩
    have e : vs.isEmpty = xs.isEmpty := by
      have := h2.length
      cases vs <;> cases xs <;> simp_all
    rw [e]
    exact k.bl
  · cases e
theorem pmt_eq0 {k : Nat} (hK : w.K = X.K) (hr : Room k X.A) (ha : PM X w W a ma) (hb : PM X w W b mb) : PMT X w W (.Compare a [.Eq] [b] pos) (mTest (mOp2 eq0 ma mb)) := pmt_cmp (op_eq0 hr.units0) (hK ▸ o2_eq0) ha hb (nomark _)
/-! ### a, b = x, y -/
def mPar (i j : Nat) (mr : MA) : MS := fun ρ => (mr ρ).bind fun xs ρ1 => match xs with
  | [x, y] => nxt ((setV i x ρ1).bind fun ρ2 => setV j y ρ2)
  | _ => .stuck
/-! ### t[::-1] -/
section
variable {prog : Program} {wo : World} {A : Around} {E : Value → Shared → Prop} {s : Shared}
end
/-! ### d[k], d a dict of the module -/
def kdF (tab : Str → Option D) : D → Option Vl
  | .str z => (tab z).map fun d => (d, false)
  | _ => none
def KdOk (X : Cx) (w : Wd) (x : Str) (tab : Str → Option D) : Prop := ∃ a, X.mg x = some (.ref a) ∧ ∀ z d, tab z = some d → ∃ v, KDct X.K X.w a z v ∧ ∀ O H, Rep w O H d v
theorem pm_kd {x : Str} {tab : Str → Option D} (hd : KdOk X w x tab) (hg : Gl X x) (hb : PM X w W b mb) (hs : PlainIx b := by exact fun _ _ => rfl) (hdb : (x == ("__debug__" : Str)) = false := by decide) : PM X w W (.Subscript (.Name x p) b pos) (mOp1 (kdF tab) mb) := by
  obtain ⟨tb, pb, sb⟩ := hb
  obtain ⟨a, hm, ht⟩ := hd
  refine ⟨_, pe_ix ix_kdict (pe_glob (v := .ref a) hg hm rfl hdb) pb hs, fun F O ρ σ H Q hw R hh => ?_⟩
  subst hw
  show tb σ H _
  refine sb.bind rfl R hh fun y u ρ1 O1 H1 st1 R1 ry h1 => ?_
  cases e : kdF tab y.1 with
  | none => rw [e] at h1; exact h1.elim
  | some z =>
    rw [e] at h1
    unfold kdF at e
    split at e
    · rename_i s ey
      rw [ey] at ry
      simp only [Rep] at ry
      cases q : tab s with
      | none => rw [q] at e; cases e
      | some d =>
        rw [q] at e
        cases e
        obtain ⟨v, kd, rp⟩ := ht s d q
        exact ⟨a, s, v, rfl, ry, kd, (h1.go st1 R1).val (rp _ _)⟩
    · cases e
end
end PM

/-! enumerate(tuple) -/
namespace PM
open PySem PySem.Spec PyProof.Rows L2
section
variable {prog : Program} {w : World} {A : Around} {E : Value → Shared → Prop} {s : Shared}
end
section
variable {K : PySem.W.Frag} {a : Addr} {xs : List V}
end
def enumL : Nat → List D → List D
  | _, [] => []
  | i, d :: ds => .tup [.int i, d] :: enumL (i + 1) ds
theorem enumL_len : ∀ (i : Nat) (ds : List D), (enumL i ds).length = ds.length
  | _, [] => rfl
  | i, d :: ds => by simp [enumL, enumL_len (i + 1) ds]
theorem enumL_drop : ∀ (i j : Nat) (ds : List D) (d : D), ds[i]? = some d → (enumL j ds).drop i = .tup [.int (j + i : Nat), d] :: (enumL j ds).drop (i + 1)
  | _, _, [], _, e => by simp at e
  | 0, j, x :: ds, d, e => by
    simp at e
    subst e
    simp [enumL]
  | i + 1, j, x :: ds, d, e => by
    have := enumL_drop i (j + 1) ds d (by simpa using e)
    simp only [enumL, List.drop_succ_cons]
    rw [this]
    congr 4
    omega
section
variable {w : Wd} {W : WX} {X : Cx} {pos p tpos : Pos} {e : Expr} {mr : MA} {elts : List Expr} {kk : Nat}
end
end PM

/-! the law's end where its promise holds under callers below whom no repr runs; the head's facts -/
namespace PM
open PySem PySem.Spec PyProof.Rows L2
section
variable {P : Program} {wo : World} {K : PySem.W.Frag} {mg mb : Str → Option Value} {Z : CXT} {k : Nat} {fa a : Addr} {fd : FuncData} {x : Str} {sp : Sp} {s1 : Shared} {us : List Value} {ns : List Int}
end
/-! ### the head's facts -/
/-- a def: where it stands, its name, its qualified name, its text -/
structure DfM where
  at_ : PySem.W.Frag → Addr
  name : Str
  qual : Str
  st : Stmt
def fnM (K : PySem.W.Frag) (a : Addr) : He.FnV := match K.lookup a with
  | some ⟨_, _, .func fd, _⟩ => some (fd.name, fd.qualname, fd.params, fd.body, fd.scope, fd.globals, fd.closure, fd.defaults, fd.builtins)
  | _ => none
def DfM.val (d : DfM) : He.FnV := some (d.name, d.qual, defArgs d.st, .stmts (defBody d.st), defScope d.st, mainGlobals, [], .none, builtinsNs)
def DfM.ok (K : PySem.W.Frag) (d : DfM) : Bool := PySem.W.keepIn K (.ref (d.at_ K)) && (match K.lookup (d.at_ K) with
  | some ⟨_, _, .func fd, _⟩ => PySem.W.codeIn K fd.code d.qual
  | _ => false)
theorem DfM.fun {K : PySem.W.Frag} {d : DfM} (e : fnM K (d.at_ K) = d.val) (c : d.ok K = true) : ∃ fd, Fun K d.name d.qual d.st (d.at_ K) fd := by
  obtain ⟨kp, c2⟩ := He.ba c
  unfold fnM at e
  cases q : K.lookup (d.at_ K) with
  | none =>
    rw [q] at c2
    cases c2
  | some o =>
    obtain ⟨oc, od, dt, osl⟩ := o
    rw [q] at c2 e
    cases dt with
    | func fd =>
      obtain ⟨n1, n2, n3, n4, n5, n6, n7, n8, n9, n10, n11, n12, n13, n14, n15⟩ := fd
      have e2 : (some (n1, n2, n3, n4, n5, n6, n7, n8, n15) : He.FnV) = d.val := e
      unfold DfM.val at e2
      simp only [Option.some.injEq, Prod.mk.injEq] at e2
      obtain ⟨h1, h2, h3, h4, h5, h6, h7, h8, h9⟩ := e2
      subst h1 h2 h3 h4 h5 h6 h7 h8 h9
      exact ⟨_, fun_mk q c2 kp⟩
    | _ => cases c2
abbrev Chk : Type := PySem.W.Frag → Bool
abbrev AlM : Type := (Bool × List He.FnV) × List (Option (List (Option (Str × Int))))
def obsM (cs : List Chk) (fn : List DfM) (ts : List He.Tab) (K : PySem.W.Frag) : AlM := (((cs.all fun c => c K) && fn.all fun d => d.ok K, fn.map fun d => fnM K (d.at_ K)), ts.map fun t => He.dicW K (t.1 K))
def valM (fn : List DfM) (ts : List He.Tab) (w : World) : AlM := ((true, fn.map DfM.val), ts.map fun t => some (He.keysIn w.params t.2))
def SaysM (cs : List Chk) (fn : List DfM) (ts : List He.Tab) (w : World) (K : PySem.W.Frag) : Prop := obsM cs fn ts K = valM fn ts w
def asM (g : Addr → Option Obj) : Nat → List Addr
  | 0 => [mainGlobals, cStatics]
  | n + 1 => He.growD g (asM g n)
def obsMG (n : Nat) (cs : List Chk) (fn : List DfM) (ts : List He.Tab) (g : Addr → Option Obj) : AlM := obsM cs fn ts (He.frG g (asM g n))
def hookM (n : Nat) (cs : List Chk) (fn : List DfM) (ts : List He.Tab) : PySem.W.Hook where
  α := AlM
  obs := fun s => obsMG n cs fn ts s.heap.get?
  val := fun w => valM fn ts w
  says := fun w h => ∃ K : PySem.W.Frag, K.In h ∧ SaysM cs fn ts w K
  of := fun _ _ e => ⟨_, He.frG_in, e⟩
  keeps := fun _ _ _ ⟨K, hK, c⟩ k => ⟨K, PySem.W.Frag.In.keeps hK k, c⟩
section
variable {cs : List Chk} {fn : List DfM} {ts : List He.Tab} {w : World} {K : PySem.W.Frag}
theorem SaysM.fact (c : SaysM cs fn ts w K) (i : Nat) {f : Chk} (h : cs[i]? = some f := by rfl) : f K = true := by
  have c1 := (He.ba (show ((cs.all fun c => c K) && fn.all fun d => d.ok K) = true from congrArg (fun z : AlM => z.1.1) c)).1
  exact List.all_eq_true.mp c1 f (List.mem_of_getElem? h)
theorem SaysM.def_ (c : SaysM cs fn ts w K) (i : Nat) {d : DfM} (h : fn[i]? = some d := by rfl) : ∃ fd, Fun K d.name d.qual d.st (d.at_ K) fd := by
  have c2 := (He.ba (show ((cs.all fun c => c K) && fn.all fun d => d.ok K) = true from congrArg (fun z : AlM => z.1.1) c)).2
  have e : fn.map (fun d => fnM K (d.at_ K)) = fn.map DfM.val := congrArg (fun z : AlM => z.1.2) c
  have e2 : (fn.map fun d => fnM K (d.at_ K))[i]? = (fn.map DfM.val)[i]? := by rw [e]
  rw [List.getElem?_map, List.getElem?_map, h] at e2
  exact DfM.fun (Option.some.inj e2) (List.all_eq_true.mp c2 d (List.mem_of_getElem? h))
theorem SaysM.tab (c : SaysM cs fn ts w K) (i : Nat) {t : He.Tab} (h : ts[i]? = some t := by rfl) : ∃ es n, KDict K w (t.1 K) es n := by
  have e : ts.map (fun t => He.dicW K (t.1 K)) = ts.map fun t => some (He.keysIn w.params t.2) := congrArg (fun z : AlM => z.2) c
  have e2 : (ts.map fun t => He.dicW K (t.1 K))[i]? = (ts.map fun t => some (He.keysIn w.params t.2))[i]? := by rw [e]
  rw [List.getElem?_map, List.getElem?_map, h] at e2
  exact He.dicW_ok (Option.some.inj e2)
end
end PM

/-! what the head looks at, as Bools over the written part; what follows -/
namespace PM
open PySem PySem.Spec PyProof.Rows L2
open PySem.W (Frag findIn specialIn takesIn typeIn slotIn recIn)
variable {K : Frag} {h : Heap} {mg : Str → Option Value} {w : Wd}
theorem b2 {a b : Bool} (h : (a && b) = true) : a = true ∧ b = true := Bool.and_eq_true_iff.mp h
def gloB (x : Str) : Chk := fun K => (He.Fa.glo x).ok K
def freeB (x : Str) : Chk := fun K => (He.Fa.free x).ok K
def intB (x : Str) (i : Int) : Chk := fun K => (He.Fa.int x i).ok K
def strB (x z : Str) : Chk := fun K => (He.Fa.str x z).ok K
def sclsB (C : Str) : Chk := fun K => PySem.W.plainGet K (He.ga K C) Str.empty && (PySem.W.isClsIn K (He.ga K C) && (PySem.W.plainOver K (He.ga K C) && He.eqO (findIn K (.ref (He.ga K C)) "__setattr__") (some (some (.builtin "object.__setattr__")))))
theorem sclsB_ok {C : Str} (h : sclsB C K = true) : SlX.SCls K (He.ga K C) := by
  obtain ⟨h1, h⟩ := b2 h
  obtain ⟨h2, h⟩ := b2 h
  obtain ⟨h3, h4⟩ := b2 h
  exact ⟨h1, h2, h3, He.eqO_ok h4⟩
def obB (a b : Option Bool) : Bool := decide (a = b)
def sisiB (C : Str) : Chk := fun K => He.eqO (findIn K (.ref (He.ga K C)) "__class__") (some (some (.builtin "object.__class__"))) && (He.eqO (specialIn K (.builtin "object.__class__") "__get__") (some (some (.builtin "getset_descriptor.__get__"))) &&
  (obB (takesIn K (.builtin "object.__class__")) (some true) && obB (PySem.W.mroIn K (He.ga K C) (.type "object")) (some true)))
theorem sisiB_ok {C : Str} (h : sisiB C K = true) : SlX.SIsi K (He.ga K C) := by
  obtain ⟨h1, h⟩ := b2 h
  obtain ⟨h2, h⟩ := b2 h
  obtain ⟨h3, h4⟩ := b2 h
  exact ⟨He.eqO_ok h1, He.eqO_ok h2, of_decide_eq_true h3, of_decide_eq_true h4⟩
def slotB (C f : Str) (i : Nat) : Chk := fun K => He.eqO (findIn K (.ref (He.ga K C)) f) (some (some (.ref (He.ma K (He.ga K C) f)))) && (He.eqO (specialIn K (.ref (He.ma K (He.ga K C) f)) "__get__") (some (some (.builtin "member_descriptor.__get__"))) &&
  (obB (takesIn K (.ref (He.ma K (He.ga K C) f))) (some true) && (decide (typeIn K (.ref (He.ma K (He.ga K C) f)) = some (.type "member_descriptor")) && (decide (slotIn K (He.ma K (He.ga K C) f) (He.ga K C) = some i) && decide (i < 1000)))))
theorem slotB_ok {C f : Str} {i : Nat} (h : slotB C f i K = true) : ∃ p, SlX.Slot1 K (He.ga K C) f p i := by
  obtain ⟨h1, h⟩ := b2 h
  obtain ⟨h2, h⟩ := b2 h
  obtain ⟨h3, h⟩ := b2 h
  obtain ⟨h4, h⟩ := b2 h
  obtain ⟨h5, h6⟩ := b2 h
  exact ⟨_, He.eqO_ok h1, He.eqO_ok h2, of_decide_eq_true h3, of_decide_eq_true h4, of_decide_eq_true h5, of_decide_eq_true h6⟩
/-- the first field of a record -/
def recAd (K : Frag) (p : Addr) (T : String) : Addr := match recIn K p T with
  | some (.ref g :: _) => g
  | _ => 0
def recB (K : Frag) (p : Addr) (T : String) : Bool := match recIn K p T with
  | some (.ref _ :: _) => true
  | _ => false
theorem recB_ok {p : Addr} {T : String} (h : recB K p T = true) : ∃ rest, recIn K p T = some (.ref (recAd K p T) :: rest) := by
  unfold recB at h
  unfold recAd
  split at h
  · rename_i g rest e
    rw [e]
    exact ⟨rest, rfl⟩
  · cases h
def propAt (C f : Str) (K : Frag) : Addr := recAd K (He.ma K (He.ga K C) f) "property"
def cmAt (C f : Str) (K : Frag) : Addr := recAd K (He.ma K (He.ga K C) f) "classmethod"
def metAt (C f : Str) (K : Frag) : Addr := He.ma K (He.ga K C) f
def gloAt (x : Str) (K : Frag) : Addr := He.ga K x
def propB (C f : Str) : Chk := fun K => He.eqO (findIn K (.ref (He.ga K C)) f) (some (some (.ref (He.ma K (He.ga K C) f)))) && (He.eqO (specialIn K (.ref (He.ma K (He.ga K C) f)) "__get__") (some (some (.builtin "property.__get__"))) &&
  (obB (takesIn K (.ref (He.ma K (He.ga K C) f))) (some true) && recB K (He.ma K (He.ga K C) f) "property"))
theorem propB_ok {C f : Str} {c : Nat} (hK : w.K = K) (hc : w.cl c = He.ga K C) (h : propB C f K = true) (h' : sclsB C K = true) : PropOk w c f (propAt C f K) := by
  obtain ⟨h1, h⟩ := b2 h
  obtain ⟨h2, h⟩ := b2 h
  obtain ⟨h3, h4⟩ := b2 h
  subst hK
  exact ⟨by rw [hc]; exact sclsB_ok h', He.ma w.K (He.ga w.K C) f, by rw [hc]; exact He.eqO_ok h1, He.eqO_ok h2, of_decide_eq_true h3, recB_ok h4⟩
def methB (C f : Str) : Chk := fun K => He.eqO (findIn K (.ref (He.ga K C)) f) (some (some (.ref (metAt C f K)))) && (PySem.W.isFn K (.ref (metAt C f K)) && PySem.W.keepIn K (.ref (metAt C f K)))
theorem methB_ok {C f : Str} {c : Nat} (hK : w.K = K) (hc : w.cl c = He.ga K C) (h : methB C f K = true) (h' : sclsB C K = true) : MethOk w c f (metAt C f K) := by
  obtain ⟨h1, h⟩ := b2 h
  obtain ⟨h2, h3⟩ := b2 h
  subst hK
  exact ⟨by rw [hc]; exact sclsB_ok h', by rw [hc]; exact ⟨He.eqO_ok h1, h2, h3⟩⟩
def mkB (C : Str) : Chk := fun K => (He.Fa.mkr C).ok K
theorem mkB_ok {C : Str} {c : Nat} (hc : w.cl c = He.ga K C) (h : mkB C K = true) : Mk K (w.cl c) (metAt C "__init__" K) := by
  rw [hc]
  exact He.mkr_ok h
def cfB (K : Frag) (C : Addr) (m : Str) (p : Addr) : Bool := match PySem.W.findCls K (.ref C) (.type "type") m with
  | some (.get (.builtin b) (.ref p') .none (.ref C')) => decide (b = "classmethod.__get__") && (decide (p' = p) && decide (C' = C))
  | _ => false
theorem cfB_ok {C p : Addr} {m : Str} (h : cfB K C m p = true) : PySem.W.findCls K (.ref C) (.type "type") m = some (.get (.builtin "classmethod.__get__") (.ref p) .none (.ref C)) := by
  unfold cfB at h
  split at h
  · rename_i b p' C' e
    obtain ⟨h1, h⟩ := b2 h
    obtain ⟨h2, h3⟩ := b2 h
    rw [e, of_decide_eq_true h1, of_decide_eq_true h2, of_decide_eq_true h3]
  · cases h
def cmB (C m : Str) : Chk := fun K => PySem.W.readsIn K (He.ga K C) (.type "type") && (He.eqO (specialIn K (.ref (He.ga K C)) "__getattribute__") (some (some (.builtin "type.__getattribute__"))) && (cfB K (He.ga K C) m (He.ma K (He.ga K C) m) && (recB K (He.ma K (He.ga K C) m) "classmethod" && PySem.W.fnIn K (cmAt C m K))))
theorem cmB_ok {C m : Str} {c : Nat} (hK : w.K = K) (hc : w.cl c = He.ga K C) (h : cmB C m K = true) : CmOk w c m (cmAt C m K) := by
  obtain ⟨h1, h⟩ := b2 h
  obtain ⟨h2, h⟩ := b2 h
  obtain ⟨h3, h⟩ := b2 h
  obtain ⟨h4, h5⟩ := b2 h
  subst hK
  exact ⟨.type "type", He.ma w.K (He.ga w.K C) m, by rw [hc]; exact ⟨h1, He.eqO_ok h2⟩, by rw [hc]; exact ⟨cfB_ok h3, recB_ok h4, h5⟩⟩
/-- isinstance: the answers -/
def kitV (K : Frag) (t : String ⊕ Str) : Value := match t with
  | .inl n => .type n
  | .inr C => .ref (He.ga K C)
def kitB (t u : String ⊕ Str) (b : Bool) : Chk := fun K => decide (PySem.W.kitOne K (kitV K t) (kitV K u) = some b)
theorem kitB_ok {t u : String ⊕ Str} {b : Bool} (h : kitB t u b K = true) : PySem.W.kitOne K (kitV K t) (kitV K u) = some b := of_decide_eq_true h
/-- a table's values -/
def valB (x k : Str) (v : He.Dv) : Chk := fun K => He.valsB K (He.ga K x) [(k, v)]
theorem valB_ok {wo : World} {x k : Str} {v : He.Dv} (hd : ∃ es n, KDict K wo (He.ga K x) es n) (h : valB x k v K = true) : KDct K wo (He.ga K x) k (v.v K) := by
  obtain ⟨es, n, d⟩ := hd
  obtain ⟨u, e1, e2⟩ := He.valsB_ok h (q := (k, v)) (by simp)
  obtain ⟨d1, d2, d3⟩ := d
  exact ⟨es, n, u, d1, d2, e1, e2⟩
end PM

/-! in, not in; is, is not; all -/
namespace PM
open PySem PySem.Spec PyProof.Rows L2
section
variable {w : Wd} {W : WX} {X : Cx} {pos p : Pos} {a b e : Expr} {ma mb m : ME} {mr : MA}
end
end PM

/-! all, any of a list of bools; a tuple repeated; a list turned round -/
namespace PM
open PySem PySem.Spec PyProof.Rows L2
def blsD : List D → Option (List Bool)
  | [] => some []
  | .bl b :: ds => (blsD ds).map fun bs => b :: bs
  | _ => none
theorem bls_rep {w : Wd} {O : Av} {H : Hp} : ∀ {ds : List D} {vs : List V} {bs : List Bool}, RepL w O H ds vs → blsD ds = some bs → vs = bs.map V.bl
  | [], vs, bs, h, e => by
    simp only [RepL] at h
    cases e
    exact h
  | d :: ds, vs, bs, h, e => by
    simp only [RepL] at h
    obtain ⟨v, vs', rfl, h1, h2⟩ := h
    cases d <;> simp only [blsD] at e <;> first | (cases e; done) | skip
    cases q : blsD ds with
    | none => rw [q] at e; cases e
    | some cs =>
      rw [q] at e
      cases e
      simp only [Rep] at h1
      rw [h1, bls_rep h2 q]
      rfl
def allD (any : Bool) : D → Option Vl
  | .lst ds => (blsD ds).map fun bs => dB (if any then bs.any id else bs.all id)
  | _ => none
section
variable {w : Wd} {W : WX} {X : Cx} {pos p : Pos} {a b e : Expr} {ma mb m : ME} {mr : MA}
theorem allD_some {any : Bool} {x : D} {z : Vl} (h : allD any x = some z) : ∃ ds bs, x = .lst ds ∧ blsD ds = some bs ∧ z = dB (if any then bs.any id else bs.all id) := by
  cases x <;> simp only [allD] at h <;> first | (cases h; done) | skip
  rename_i ds
  cases q : blsD ds with
  | none => rw [q] at h; cases h
  | some bs => rw [q] at h; cases h; exact ⟨ds, bs, rfl, q, rfl⟩
theorem pm_all (hK : w.K = X.K) (hc : X.calm = true) (hg : Gl X "all") (hm : X.mg "all" = none) (ha : PMA X w W [e] mr) (he : starEach [e] X.env = (false, eval e X.env) :: starEach [] X.env := by rfl) : PM X w W (.Call (.Name "all" p) [e] [] pos) (mCall (one1 (allD false)) mr) :=
  pm_callB (cr_all hc) (fun O H xs z vs Q dm e rs k => by
    obtain ⟨x, rfl, ez⟩ := one1_some e
    obtain ⟨v, rfl, hv⟩ := repl1 rs
    obtain ⟨ds, bs, rfl, hb, rfl⟩ := allD_some ez
    simp only [Rep] at hv
    obtain ⟨c, us, rfl, h1, h2⟩ := hv
    refine ⟨c, bs, rfl, ?_, k.bl⟩
    rw [← bls_rep h2 hb, ← hK]
    exact sl_of_rep h1) hg hm (by decide +kernel) ha (by decide) (by decide) he
end
end PM

/-! one's own list turned round -/
namespace PM
open PySem PySem.Spec PyProof.Rows L2
section
variable {w : Wd} {W : WX} {X : Cx} {pos p : Pos} {x : Str}
end
end PM

/-! {}; a tuple repeated -/
namespace PM
open PySem PySem.Spec PyProof.Rows L2
section
variable {w : Wd} {W : WX} {X : Cx} {pos p : Pos} {a b : Expr} {ma mb : ME}
def mDct0 : ME := fun ρ => .ok (.dct [] [], true) ρ
theorem pm_dct0 : PM X w W (.Dict [] [] pos) mDct0 := by
  refine ⟨_, pe_dnewK, fun F O ρ σ H Q hw R hh => ?_⟩
  subst hw
  intro p hp
  have g := hh.go (Step.refl _ _) R
  exact g (.ref p) _ (Grow.new hp) ⟨p, .dct [] [], rfl, hp, rfl, [], upd_same, rfl, by simp only [List.map_nil, RepL]⟩
theorem RepL.rep {O : Av} {H : Hp} {ds : List D} {vs : List V} (h : RepL w O H ds vs) : ∀ n : Nat, RepL w O H (List.replicate n ds).flatten (List.replicate n vs).flatten
  | 0 => by simp [RepL]
  | n + 1 => by
    rw [List.replicate_succ, List.replicate_succ, List.flatten_cons, List.flatten_cons]
    exact RepL.append h (RepL.rep h n)
end
end PM

/-! in, not in: data of any depth in a tuple or a list -/
namespace PM
open PySem PySem.Spec PyProof.Rows L2
def rInT (K : PySem.W.Frag) (neg : Bool) : R2 := fun x y H Q => ∃ d ds, Dp K H x d ∧ (Dp K H y (.tuple ds) ∨ Dp K H y (.list ds)) ∧ SeqAt.shaped d = true ∧ PyData.canLayAll0 ds = true ∧ Q (.bl (if neg then !(ds.any fun z => PyData.eqv z d) else ds.any fun z => PyData.eqv z d)) H
def inA (neg : Bool) (x y : D) : Option Vl := (pyOk x).bind fun d => match toPy y with
  | some (.tuple ds) => if PyData.canLayAll0 ds = true then some (dB (if neg then !(ds.any fun z => PyData.eqv z d) else ds.any fun z => PyData.eqv z d)) else none
  | some (.list ds) => if PyData.canLayAll0 ds = true then some (dB (if neg then !(ds.any fun z => PyData.eqv z d) else ds.any fun z => PyData.eqv z d)) else none
  | _ => none
section
variable {w : Wd} {W : WX} {X : Cx} {pos p : Pos} {a b : Expr} {ma mb : ME}
theorem op_inT (hu : X.A.units + 65 < cLine) : OpR X (compareOp .In) (rInT X.K false) := by
  intro pins s σ H x y v u Q I rx ry h
  obtain ⟨d, ds, hd, he, sd, se, q⟩ := h
  obtain ⟨as, r1⟩ := Dp.reads I d x v hd rx
  rcases he with he | he
  · obtain ⟨bs, r2⟩ := Dp.reads I (.tuple ds) y u he ry
    exact SeqAt.in_tuple_reads r2 r1 se (SeqAt.canLay_of_shaped sd) (room_in_shaped sd hu) ⟨.bl _, H, I, rfl, q⟩
  · obtain ⟨bs, r2⟩ := Dp.reads I (.list ds) y u he ry
    exact SeqAt.in_list_reads r2 r1 se (SeqAt.canLay_of_shaped sd) (room_in_shaped sd hu) ⟨.bl _, H, I, rfl, q⟩
theorem op_notInT (hu : X.A.units + 65 < cLine) : OpR X (compareOp .NotIn) (rInT X.K true) := by
  intro pins s σ H x y v u Q I rx ry h
  obtain ⟨d, ds, hd, he, sd, se, q⟩ := h
  obtain ⟨as, r1⟩ := Dp.reads I d x v hd rx
  rcases he with he | he
  · obtain ⟨bs, r2⟩ := Dp.reads I (.tuple ds) y u he ry
    exact SeqAt.notIn_tuple_reads r2 r1 se (SeqAt.canLay_of_shaped sd) (room_in_shaped sd hu) ⟨.bl _, H, I, rfl, q⟩
  · obtain ⟨bs, r2⟩ := Dp.reads I (.list ds) y u he ry
    exact SeqAt.notIn_list_reads r2 r1 se (SeqAt.canLay_of_shaped sd) (room_in_shaped sd hu) ⟨.bl _, H, I, rfl, q⟩
theorem o2_inA (neg : Bool) : Op2 w (rInT w.K neg) (inA neg) := fun O H x y z vx vy Q dm e hx hy k => by
  unfold inA at e
  cases q : pyOk x with
  | none => rw [q] at e; cases e
  | some d =>
    rw [q] at e
    simp only [Option.bind_some] at e
    obtain ⟨a1, a2⟩ := pyOk_some q
    split at e
    · rename_i ds q2
      split at e
      · rename_i hc
        cases e
        exact ⟨d, ds, dp_of x vx d hx a1, .inl (dp_of y vy _ hy q2), a2, hc, k.bl⟩
      · cases e
    · rename_i ds q2
      split at e
      · rename_i hc
        cases e
        exact ⟨d, ds, dp_of x vx d hx a1, .inr (dp_of y vy _ hy q2), a2, hc, k.bl⟩
      · cases e
    · cases e
theorem room65 {k : Nat} {A : Around} (hr : Room k A) : A.units + 65 < cLine := by have := hr.un; omega
theorem pm_inA {k : Nat} (hK : w.K = X.K) (hr : Room k X.A) (ha : PM X w W a ma) (hb : PM X w W b mb) (hm : behindInMarks .In b = false := by rfl) : PM X w W (.Compare a [.In] [b] pos) (mOp2 (inA false) ma mb) := pm_cmp (op_inT (room65 hr)) (hK ▸ o2_inA false) ha hb hm
theorem pmt_inA {k : Nat} (hK : w.K = X.K) (hr : Room k X.A) (ha : PM X w W a ma) (hb : PM X w W b mb) (hm : behindInMarks .In b = false := by rfl) : PMT X w W (.Compare a [.In] [b] pos) (mTest (mOp2 (inA false) ma mb)) := pmt_cmp (op_inT (room65 hr)) (hK ▸ o2_inA false) ha hb hm
theorem pmt_notInA {k : Nat} (hK : w.K = X.K) (hr : Room k X.A) (ha : PM X w W a ma) (hb : PM X w W b mb) (hm : behindInMarks .NotIn b = false := by rfl) : PMT X w W (.Compare a [.NotIn] [b] pos) (mTest (mOp2 (inA true) ma mb)) := pmt_cmp (op_notInT (room65 hr)) (hK ▸ o2_inA true) ha hb hm
end
end PM

/-! ==, != of tuples whose items' comparison may run code: with either answer -/
namespace PM
open PySem PySem.Spec PyProof.Rows L2
open AutoSeq1 (wpAny_loadPart')
open GQ
section
variable {prog : Program} {wo : World} {A : Around} {R : Result → Shared → Prop}
end
end PM

/-! ==, != of tuples and lists that hold instances: where all items are equal -/
namespace PM
open PySem PySem.Spec PyProof.Rows L2
section
variable {X : Cx} {w : Wd} {c j : Nat} {g : Addr} {fn : Fn}
end
section
variable {w : Wd} {W : WX} {X : Cx} {pos : Pos} {e e' : Expr} {m m' : ME} {c j : Nat} {g : Addr} {fn : Fn}
end
end PM

namespace PM
open PySem
open Builtin Builtin.ObjectAttr
/-! ### a new instance, whoever's __new__ makes it -/
section
variable {prog : Program} {w : World} {A : Around} {E : Value → Shared → Prop} {R : Result → Shared → Prop} {hp : Heap} {g : Array GenState} {d : Drawn} {t : Nat} {os : OsState}
variable {nm q : Str} {C N : Addr} {bs bm bm0 : List Value} {hdct : Bool} {sn : List Str} {sub : List Value} {ab : Bool} {col : Option Bool} {dd : Option Addr} {k0 k1 k2 k3 k5 : Option Value} {B0 newId init0 : String}
/-- the class' line, as far as __new__ asks -/
structure LineF (B0 : String) (bm : List Value) : Prop where
  hB : bm.contains (.type B0) = true
  hA : bm.contains (.type "AttributeError") = false
  hN : bm.contains (.type "NameError") = false
theorem chk_new {M : Model} (F : ExcBaseFacts B0 newId init0 bm0) (L : LineF B0 bm) {rest : List Value} {Q : Unit → Shared → Prop} (hC : hp.get? C = some (excClassObj nm q C N bs bm hdct sn sub ab col dd k0 k1 k2 k3 k5 newId)) (fin : Q () ⟨hp, g, d, t, os⟩) : wpAny M A (checkBuiltinCall newId ⟨.ref C :: rest, []⟩) Q E ⟨hp, g, d, t, os⟩ := by
  have c1 : (Value.ref C :: bm).contains (.type B0) = true := by rw [List.contains_cons, L.hB, Bool.or_true]
  have c2 := F.noStar
  simp only [checkBuiltinCall, F.newSplit, F.newKind, F.newRow]
  repeat (first | refine wpAny_loadPart_at hC ?_ | (refine wpAny_isSubtype_exc hC ?_; rw [c1]) | refine wpAny_madeBy_exc hC ?_ | refine wpAny_staticBase_exc hC ?_ | simp only [bne_self_eq_false, Bool.false_eq_true, if_false] | wp_step)
  exact fin
theorem made_new (F : ExcBaseFacts B0 newId init0 bm0) (L : LineF B0 bm) {rest : List Value} (hC : hp.get? C = some (excClassObj nm q C N bs bm hdct sn sub ab col dd k0 k1 k2 k3 k5 newId)) (fin : R (.ok (.ret (.ref (hp.objs.size + 1)))) ⟨(hp.push (W.kdv_tup rest)).push (HandSPX.excO C hp.objs.size), g, d, t, os⟩) (hl : rest.length ≤ sizeLine) :
    codeAny (model prog w) A (.builtin newId ⟨.ref C :: rest, []⟩) R ⟨hp, g, d, t, os⟩ := by
  have c0 := F.ends
  have c1 : (Value.ref C :: bm).contains (.type B0) = true := by rw [List.contains_cons, L.hB, Bool.or_true]
  have c2 : (Value.ref C :: bm).contains (.type "AttributeError") = false := by rw [List.contains_cons, L.hA]; rfl
  have c3 : (Value.ref C :: bm).contains (.type "NameError") = false := by rw [List.contains_cons, L.hN]; rfl
  have hrest := hl
  refine codeAny_builtinAt F.entry ?_
  unfold Builtin.«BaseException.__new__»
  refine wpAt_bind ?_
  show wpAt _ _ _ (stack >>= _) _ _ _
  refine wpAt_bind (wpAt_stack fun p below => wpAt_of_wpAny ?_)
  wp_walk
  refine wpAt_of_wpAny ?_
  rw [F.owner]
  repeat (first | with_reducible refine wpAny_loadPart_at hC ?_ | with_reducible refine wpAny_madeHere_exc F.canon hC ?_ | (with_reducible refine wpAny_isSubtype_exc hC ?_; first | rw [c1] | rw [c2] | rw [c3]) | wp_step)
  show R _ _
  rw [Heap.size_push]
  exact fin
theorem typ_call (F : ExcBaseFacts B0 newId init0 bm0) (L : LineF B0 bm) {rest : List Value} {fI : Addr} {Q : Fin → Shared → Prop} (hC : hp.get? C = some (excClassObj nm q C N bs bm hdct sn sub ab col dd k0 k1 k2 k3 k5 newId)) (hi   : W.Looks (model prog w) hp (typeLookup (.ref C) "__init__") (some (.ref fI))) (hb : ∀ self, W.Looks (model prog w) hp (bindSpecial (.ref fI) self) (.ref fI, [self])) (hl : rest.length ≤ sizeLine)
    (fin : codeAny (model prog w) A (.call (.ref fI) ⟨.ref (hp.objs.size + 1) :: rest, []⟩) (fun r s' => match r with | .ok (.ret v) => v = .none ∧ Q (.done (.ret (.ref (hp.objs.size + 1)))) s' | .ok _ => False | .error e => E e s') ⟨(hp.push (W.kdv_tup rest)).push (HandSPX.excO C hp.objs.size), g, d, t, os⟩) :
    wpAny (model prog w) A (Builtin.«type.__call__» ⟨.ref C :: rest, []⟩) Q E ⟨hp, g, d, t, os⟩ := by
  repeat (first | with_reducible refine wpAny_madeBy_exc hC ?_ | with_reducible refine wpAny_loadPart_at hC ?_ | wp_step)
  refine codeAny_call_builtin_code (Code.quiet_builtin _ F.quiet) (chk_new F L hC (made_new F L hC ?_ hl))
  show wpAny _ _ _ _ _ _
  have k : ∀ c o, hp.get? c = some o → ((hp.push (W.kdv_tup rest)).push (HandSPX.excO C hp.objs.size)).get? c = some o := fun c o z => Heap.get?_push_of_some _ (Heap.get?_push_of_some _ z)
  have h1 := k _ _ hC
  have h2 : ((hp.push (W.kdv_tup rest)).push (HandSPX.excO C hp.objs.size)).get? (hp.objs.size + 1) = some (HandSPX.excO C hp.objs.size) := by heap_get
  have h3 : (Value.ref C :: bm).contains (.ref C) = true := by simp
  have i1 := hi.keeps k
  have b1 := (hb (.ref (hp.objs.size + 1))).keeps k
  unfold isInstance
  repeat (first | with_reducible refine wpAny_loadPart_at h2 ?_ | (with_reducible refine wpAny_isSubtype_exc h1 ?_; rw [h3]) | wp_step)
  show wpAny _ _ (typeLookup (.ref C) _) _ _ _
  refine i1.at (wpAny_holding (wpAny_bind (b1.at (wpAny_bind (wpAny_call (codeAny_mono fin fun r s' z => ?_))))))
  rcases r with e | (v | _ | _ | _) <;> first | exact z | exact z.elim | skip
  obtain ⟨rfl, z⟩ := z
  first | exact wpAny_pure (wpAny_pure z) | (wp_walk; exact z)
theorem call_new (F : ExcBaseFacts B0 newId init0 bm0) (L : LineF B0 bm) {rest : List Value} {fI : Addr} (hC : hp.get? C = some (excClassObj nm q C N bs bm hdct sn sub ab col dd k0 k1 k2 k3 k5 newId)) (hi   : W.Looks (model prog w) hp (typeLookup (.ref C) "__init__") (some (.ref fI))) (hb : ∀ self, W.Looks (model prog w) hp (bindSpecial (.ref fI) self) (.ref fI, [self])) (hl : rest.length ≤ sizeLine)
    (fin : codeAny (model prog w) (A.under (.builtin "type.__call__" ⟨.ref C :: rest, []⟩)) (.call (.ref fI) ⟨.ref (hp.objs.size + 1) :: rest, []⟩) (W.InitBack (hp.objs.size + 1) R) ⟨(hp.push (W.kdv_tup rest)).push (HandSPX.excO C hp.objs.size), g, d, t, os⟩) :
    codeAny (model prog w) A (.call (.ref C) ⟨rest, []⟩) R ⟨hp, g, d, t, os⟩ := by
  have f1 := tc_lookup
  have f2 := tc_bind (.ref C)
  have ty : (⟨hp, g, d, t, os⟩ : Shared).TypeIs (.ref C) "type" := ⟨_, hC, rfl⟩
  refine codeAny_of_tree ?_
  show wpAny _ _ (callAny (.ref C) _) _ _ _
  repeat (any_goals (first | assumption | with_reducible refine wpAny_loadPart_at hC ?_ | wp_step))
  refine ⟨rfl, codeAny_call_builtin_at (Code.quiet_builtin _ (by decide +kernel)) entry_typeCall (wpAny_check_type_call_sub hC (typ_call F L hC hi hb hl (codeAny_mono fin fun r s' z => ?_)))⟩
  rcases r with e | (v | _ | _ | _) <;> exact z
end
end PM

/-! an own exception whose __init__ says super().__init__(text), self.f = x: over any base -/
namespace PM
open PySem PySem.Spec PyProof.Rows PySem.W PySem.Calls
open Builtin Builtin.ObjectAttr
/-- own classes, then the base's line -/
def refsB (T : List Value) : List Value → Bool
  | .ref _ :: r => refsB T r
  | l => decide (l = T)
theorem refsB_cases (T : List Value) (l : List Value) (e : refsB T l = true) : (∃ c r, l = .ref c :: r ∧ refsB T r = true) ∨ l = T := by
  unfold refsB at e
  split at e
  · exact .inl ⟨_, _, rfl, e⟩
  · exact .inr (of_decide_eq_true e)
theorem refsB_has {T : List Value} (Y : String) : ∀ l : List Value, refsB T l = true → l.contains (.type Y) = T.contains (.type Y)
  | [], e => by
    rcases refsB_cases T [] e with ⟨_, _, q, _⟩ | q
    · cases q
    · rw [← q]
  | a :: r, e => by
    rcases refsB_cases T (a :: r) e with ⟨c, r', q, z⟩ | q
    · obtain ⟨q1, q2⟩ := List.cons.inj q
      subst q1
      subst q2
      have ih := refsB_has Y r z
      rw [List.contains_cons, ih]
      rfl
    · rw [q]
theorem refsB_lets {T : List Value} (hT : ∀ x : Value, refuseLoop x "__setattr__" T = pure ()) (x : Value) : ∀ l : List Value, refsB T l = true → refuseLoop x "__setattr__" l = pure ()
  | [], e => by
    rcases refsB_cases T [] e with ⟨_, _, q, _⟩ | q
    · cases q
    · rw [q]; exact hT x
  | a :: r, e => by
    rcases refsB_cases T (a :: r) e with ⟨c, r', q, z⟩ | q
    · obtain ⟨q1, q2⟩ := List.cons.inj q
      subst q1
      subst q2
      rw [refuseLoop_ref]
      exact refsB_lets hT x r z
    · rw [q]; exact hT x
section
variable {prog : Program} {w : World} {A : Around} {E : Value → Shared → Prop} {R : Result → Shared → Prop} {hp : Heap} {g : Array GenState} {d : Drawn} {t : Nat} {os : OsState} {K : Frag}
/-- self.f = v, the first one -/
theorem osaX {f : Str} {tk : Tok} {v : Value} {x C : Addr} {fv : Array Value} {cd : ClassData} (X : K.In hp) (ho : hp.get? x = some { cls := .ref C, data := .fields fv }) (hcd : clsIn K C = some cd) (lets : ∀ y : Value, refuseLoop y "__setattr__" cd.mro = pure ()) (hob : mroIn K C (.type "object") = some true) (hh : cd.hasDict = true) (no : findIn K (.ref C) f = some none)
    (fin : ∀ h' tk' dx, (∀ b o, b ≠ x → hp.get? b = some o → h'.get? b = some o) → hp.objs.size ≤ dx → dx ≠ x → h'.get? x = some { cls := .ref C, dict := some dx, data := .fields fv } → h'.Ns1 dx (fun y => if y = f then some v else none) → R (.ok (.ret .none)) ⟨h', g, d, tk', os⟩) :
    codeAny (model prog w) A (.call (.builtin "object.__setattr__") ⟨[.ref x, .str f tk, v], []⟩) R ⟨hp, g, d, t, os⟩ := by
  have J : InstAt hp x { cls := .ref C, data := .fields fv } C none := ⟨ho, rfl, rfl, trivial⟩
  have away : x ≠ hp.objs.size := Nat.ne_of_lt (Heap.lt_size ho)
  have isO : Looks (model prog w) hp (isInstance (.ref x) (.type "object")) true := J.type.andThen (looks_mroIn X hob)
  have S := PySem.F.store_object
  refine codeAny_call_builtin S.slot.plain S.entry (@check_slot (model prog w) _ _ ⟨hp, g, d, t, os⟩ "object.__setattr__" "object" "__setattr__" (.ref x) [.str f tk, v] [] _ S.kind S.split isO (S.args (.ref x) (.str f tk) v) ?_)
  have line : Looks (model prog w) hp (mroOf (.ref C)) cd.mro := (looks_clsIn X hcd).andThen .now
  have none3 : Looks (model prog w) hp (storeTaker? none) none := .now
  have dat : Looks (model prog w) hp (classData C) cd := looks_clsIn X hcd
  rw [osa_eq, refuse_eq]
  refine wpAny_bind (wpAny_bind (J.type.at (wpAny_bind (line.at ?_))))
  rw [lets]
  refine wpAny_pure (wpAny_bind (J.type.at (wpAny_bind ((looks_findIn X no).at (wpAny_bind (none3.at ?_))))))
  show wpAny _ _ (storeInOwnDict (.ref x) (.ref C) (.str f tk) f v false) _ _ _
  cases cd with
  | mk nm bs mro ns qn hd sn sb ab col del =>
    dsimp only at hh
    subst hh
    unfold storeInOwnDict ownDictForStores
    repeat (first | with_reducible refine HandSPX.store_in_new ?_ ?_ | with_reducible refine wpAny_loadPart_at ho ?_ | with_reducible refine dat.at ?_ | wp_step)
    · exact ⟨_, #[], _, (Heap.get?_update_ne _ _ _ _ (Ne.symm away)).trans (Heap.get?_push_at rfl rfl), rfl, fun e he => absurd he (by simp), fun _ => rfl⟩
    · intro h' tk' n1 same
      have ho2 : (hp.push { cls := .type "dict", data := .dict #[] }).get? x = some { cls := .ref C, data := .fields fv } := Heap.get?_push_of_some _ ho
      refine fin h' tk' hp.objs.size (fun b o hb hbo => ?_) (Nat.le_refl _) (Ne.symm away) ((same.2 x away).trans (Heap.get?_update_self _ ho2 rfl)) n1
      exact (same.2 b (Nat.ne_of_lt (Heap.lt_size hbo))).trans ((Heap.get?_update_ne _ _ _ _ hb).trans (Heap.get?_push_of_some _ hbo))
/-- what is known of a base's __init__ -/
structure IniF (B i : String) : Prop where
  plain : plainId i = true
  entry : entryFor table i = some Builtin.«BaseException.__init__»
  kind : builtinKind i = some .slot
  row : Manifest.signature? i = some ⟨.positional, "*", B, .self, [⟨"args", .varPos, false⟩]⟩
  star : (B != "*") = true
theorem iniF_of {B newId i : String} {bmB : List Value} (F : ExcBaseFacts B newId i bmB) : IniF B i := ⟨F.init.plain, F.initEntry, F.initKind, F.initRow, F.noStar⟩
theorem bound_init {M : Model} {B i newId : String} (F : IniF B i) {nm q : Str} {C N e : Addr} {oe : Obj} {bs bm : List Value} {hdct : Bool} {sn : List Str} {sub : List Value} {ab : Bool} {col : Option Bool} {dd : Option Addr} {k0 k1 k2 k3 k5 : Option Value} {rest : List Value} {Q : Unit → Shared → Prop}
    (hC : hp.get? C = some (excClassObj nm q C N bs bm hdct sn sub ab col dd k0 k1 k2 k3 k5 newId)) (he : hp.get? e = some oe) (hc : oe.cls = .ref C) (fin : Q () ⟨hp, g, d, t, os⟩) : wpAny M A (checkBoundCall i ⟨.ref e :: rest, []⟩) Q E ⟨hp, g, d, t, os⟩ := by
  have st := F.star
  simp only [checkBoundCall, F.kind, F.row]
  repeat (first | with_reducible refine wpAny_loadPart_at hC ?_ | (with_reducible refine wpAny_loadPart_at he ?_; rw [hc]) | wp_step)
  refine wpAny_onRaise ?_
  have ck : ∀ (x y : String) (k : Nat), Bind.check ⟨.positional, "*", B, .self, [⟨"args", .varPos, false⟩]⟩ x y k (List.map (fun z => z.fst) ({ pos := Value.ref e :: rest } : Args).kw) = pure () := fun x y k => check_star_args _ _ _ _ _ _
  rw [ck]
  exact wpAny_pure fin
/-- the base's __init__, bound, called -/
theorem call_mw {B i newId : String} {bm bs : List Value} {nm q : Str} {C N u e t0 : Addr} {hdct ab : Bool} {sn : List Str} {sub : List Value} {col : Option Bool} {dd : Option Addr} {k0 k1 k2 k3 k5 : Option Value} {xs : List Value} {Q : Value → Shared → Prop} (FB : IniF B i)
    (hC : hp.get? C = some (excClassObj nm q C N bs bm hdct sn sub ab col dd k0 k1 k2 k3 k5 newId)) (he : hp.get? e = some (HandSPX.excO C t0)) (hu : hp.get? u = some (kxs_mw i e)) (hl : xs.length ≤ sizeLine)
    (fin : ∀ h' t1, (∀ b o, b ≠ e → hp.get? b = some o → h'.get? b = some o) → h'.get? e = some (HandSPX.excO C t1) → Q .none ⟨h', g, d, t, os⟩) : wpAny (model prog w) A (call (.ref u) xs) Q E ⟨hp, g, d, t, os⟩ := by
  refine wpAny_call (codeAny_of_tree ?_)
  show wpAny _ A.in1 (callAny (.ref u) ⟨xs, []⟩) _ _ _
  simp only [callAny]
  refine wpAny_bind (wpAny_load hu ?_)
  simp only [kxs_mw, show (Value.type "method-wrapper" == Value.type "method" || Value.type "method-wrapper" == Value.type "builtin_function_or_method" || Value.type "method-wrapper" == Value.type "method-wrapper") = true by decide, if_true]
  refine KFB.if_so (by decide) (wpAny_bind (bound_init FB hC he rfl (wpAny_bind (wpAny_pure (wpAny_pure ?_)))))
  refine ⟨plainId_quiet FB.plain _, codeAny_builtin FB.entry ?_⟩
  rw [Around.under_plainId FB.plain _]
  wp_walk
  refine fin _ hp.objs.size (fun b o hb hbo => ?_) ?_
  · rw [Heap.get?_update_other _ _ (Ne.symm hb)]
    exact Heap.get?_push_of_some _ hbo
  · rw [Heap.get?_update_self _ (Heap.get?_push_of_some _ he) rfl]
    rfl
end
end PM

namespace PM
open PySem PySem.Spec PyProof.Rows PySem.W PySem.Calls
open Builtin Builtin.ObjectAttr
/-- the text of such an __init__ -/
structure SupSt where
  msg : Str
  fld : Str
  slf : Str
  par : Str
  j : Nat
  p0 : Pos
  p1 : Pos
  p2 : Pos
  p3 : Pos
  p4 : Pos
  p5 : Pos
  p6 : Pos
  p7 : Pos
  p8 : Pos
  p9 : Pos
abbrev SupSt.call (b : SupSt) : Expr := .Call (.Attribute (.Call (.Name "super" b.p0) [] [] b.p1) "__init__" b.p2) [.Constant (.str b.msg) b.j b.p3] [] b.p4
def SupSt.body (b : SupSt) : List Stmt := [.Expr b.call b.p5, .Assign [.Attribute (.Name b.slf b.p6) b.fld b.p7] (.Name b.par b.p8) b.p9]
/-- what the written part says of the class and its __init__ -/
structure SupK (prog : Program) (K : Frag) (C f cc cda : Addr) (B i newId : String) (bmB : List Value) (b : SupSt) (qual : Str) (params : Arguments) (scope : Scope) : Prop where
  cls : ∃ nm q N bs bm sn sub ab col dd k0 k1 k2 k3 k5, K.lookup C = some (excClassObj nm q C N bs bm true sn sub ab col dd k0 k1 k2 k3 k5 newId) ∧ refsB bmB bm = true
  fn : ∃ (oc : Value) (od : Option Addr) (kV doc pm : Value) (an : Option Addr) (ct : Value) (osl : Array (Option Value)), K.lookup f = some ⟨oc, od, .func (ksFn "__init__" qual params b.body scope .none kV doc pm an (.ref cda) ct cc), osl⟩ ∧ (∀ s us, us.length = 2 → BindsTo s (ksFn "__init__" qual params b.body scope .none kV doc pm an (.ref cda) ct cc) ⟨us, []⟩ ([b.slf, b.par].zip us))
  cd : codeIn K (.ref cda) qual = true
  code : ∃ ccl cdd vs ccs file tf, K.lookup cda = some ⟨ccl, cdd, .fields vs, ccs⟩ ∧ vs[2]? = some (.str file tf) ∧ ((prog.main.file : Str) == file) = true
  cell : ∃ cl cld csl, K.lookup cc = some ⟨cl, cld, .cell (some (.ref C)), csl⟩
  head : (params.posonlyargs ++ params.args).head?.map (·.arg) = some b.slf
  ne : b.slf ≠ b.par
  kind : scope.kind = .function
  co : scope.isCoroutine = false
  gen : scope.isGenerator = false
  nocell : ∀ x ∈ scope.names, x.2 ≠ .cell
  ksup : scope.names.lookup ("super" : Str) = some .globalImplicit
  kcls : scope.names.lookup ("__class__" : Str) = some .free
  kslf : scope.names.lookup b.slf = some .local
  kpar : scope.names.lookup b.par = some .local
  top : (prog.main.scope.names.lookup ("super" : Str)).isSome = false
  opq : nsIn K cStatics "thirdparty.any" = some none
  sup : ks_superIn K C C "__init__" = some (some (.builtin i))
  subB : subIn K (.ref C) (.type B) = some true
  mroC : mroIn K C (.ref C) = some true
  mroO : mroIn K C (.type "object") = some true
  sa : findIn K (.ref C) "__setattr__" = some (some (.builtin "object.__setattr__"))
  nof : findIn K (.ref C) b.fld = some none
  hi : ∀ L, interactive (ksEnv qual scope L f (.ref cda) cc) = false
  hs1 : ∀ L, swapsWith b.call none b.p5.line (ksEnv qual scope L f (.ref cda) cc) = pure false
  hs2 : ∀ L, swapsWith (.Name b.par b.p8) (some (.Attribute (.Name b.slf b.p6) b.fld b.p7)) b.p9.line (ksEnv qual scope L f (.ref cda) cc) = pure false
  hev : ∀ L, ∃ pl : Sem Bool, eval b.call (ksEnv qual scope L f (.ref cda) cc) = (do
      let ov ← attributeBase (.Call (.Name "super" b.p0) [] [] b.p1) "__init__" (ksEnv qual scope L f (.ref cda) cc) (eval (.Call (.Name "super" b.p0) [] [] b.p1) (ksEnv qual scope L f (.ref cda) cc))
      standAt b.p2.atName
      let (fv, first) ← holding [ov] (getMethod ov "__init__" pl)
      callWith b.p4 fv first (backTo b.p4 (starEach [.Constant (.str b.msg) b.j b.p3] (ksEnv qual scope L f (.ref cda) cc))) [])
  d1 : (b.slf == ("__debug__" : Str)) = false
  d2 : (b.par == ("__debug__" : Str)) = false
section
variable {prog : Program} {w : World} {A : Around} {R : Result → Shared → Prop} {K : Frag} {C f cc cda : Addr} {B i newId : String} {bmB : List Value} {b : SupSt} {qual : Str} {params : Arguments} {scope : Scope}
theorem run_sup (T : SupK prog K C f cc cda B i newId bmB b qual params scope) (KF : KxsFacts B i) (FB : IniF B i) (lets : ∀ y : Value, refuseLoop y "__setattr__" bmB = pure ()) {s : Shared} {a t0 : Addr} {u : Value} {mg mb : Str → Option Value} (hdp : A.depth < recursionLimit) (hKa : K.lookup a = none) (X : K.In s.heap)
    (lim : s.heap.NoLimit) (hg : s.heap.Ns mainGlobals mg) (hm : mg "super" = none) (hb : s.heap.Ns builtinsNs mb) (hb2 : ∀ x : Str, x ≠ "__name__" → mb x = bootBuiltins x) (he : s.heap.get? a = some (HandSPX.excO C t0))
    (fin : ∀ h' tk' dx t1, (∀ c o, c ≠ a → s.heap.get? c = some o → h'.get? c = some o) → s.heap.objs.size ≤ dx → dx ≠ a → h'.get? a = some ({ cls := .ref C, dict := some dx, data := .fields #[.ref t1, .none, .none, .none, .bool false, .none] } : Obj) → h'.Ns1 dx (fun y => if y = b.fld then some u else none) → R (.ok (.ret .none)) { s with heap := h', toks := tk' }) :
    codeAny (model prog w) A (.call (.ref f) ⟨[.ref a, u], []⟩) R s := by
  obtain ⟨nm, q, N, bs, bm, sn, sub, ab, col, dd, k0, k1, k2, k3, k5, hC, hbm⟩ := T.cls
  obtain ⟨oc, od, kV, doc, pm, an, ct, osl, hf, hbind⟩ := T.fn
  obtain ⟨ccl, cdd, vs, ccs, file, tf, hcode, hvs, hfile⟩ := T.code
  obtain ⟨cl, cld, csl, hcell⟩ := T.cell
  obtain ⟨ar, har, hart⟩ : ∃ ar, (params.posonlyargs ++ params.args).head? = some ar ∧ ar.arg = b.slf := by
    have h := T.head
    cases z : (params.posonlyargs ++ params.args).head? with
    | none => rw [z] at h; cases h
    | some ar => rw [z] at h; exact ⟨ar, rfl, Option.some.inj h⟩
  have hcl : clsIn K C = some { name := nm, bases := bs, mro := .ref C :: bm, ns := N, qualname := q, hasDict := true, slotNames := sn, subclasses := sub, abstract := ab, collection := col, hasDel := false } := by unfold clsIn; rw [hC] <;> rfl
  refine ks_codeAny_call_defAt (binds := [(b.slf, .ref a), (b.par, u)]) hdp (X _ _ hf) rfl lim (codeRec_of X T.cd) rfl (hbind s [.ref a, u] rfl) T.nocell (fun x hx => ?_) (fun h1 hns hk1 => ?_) T.co T.gen T.kind
  · simp only [List.mem_cons, List.not_mem_nil, or_false] at hx
    rcases hx with rfl | rfl
    · exact T.kslf
    · exact T.kpar
  have X1 : K.In h1 := X.keeps hk1
  have he1 := hk1 _ _ he
  have vs1 : ([(b.slf, Value.ref a), (b.par, u)] : List (Str × Value)).reverse.lookup b.slf = some (.ref a) := by
    have z : (b.slf == b.par) = false := beq_eq_false_iff_ne.mpr T.ne
    simp [List.lookup, z]
  have vp1 : ([(b.slf, Value.ref a), (b.par, u)] : List (Str × Value)).reverse.lookup b.par = some u := by simp [List.lookup]
  obtain ⟨pl, hev⟩ := T.hev s.heap.objs.size
  show _root_.PySem.wpAt (model prog w) _ (.func b.body (ksEnv qual scope s.heap.objs.size f (.ref cda) cc)) (execs [.Expr b.call b.p5, .Assign [.Attribute (.Name b.slf b.p6) b.fld b.p7] (.Name b.par b.p8) b.p9] (ksEnv qual scope s.heap.objs.size f (.ref cda) cc)) _ _ _
  refine ks_wpAt_execs_cons (ks_wpAt_Expr_any (ks_wpAt_MethodCall (pl := pl) ?_ hev) (T.hi _) (T.hs1 _))
  · refine ks_wpAt_super_base T.ksup T.kcls (by decide) rfl (X1 _ _ hf) rfl har rfl (X1 _ _ hcode) rfl hvs hfile T.top ?_
    refine ks_loadName_global T.kind T.ksup (loadGlobal_builtin (hg.keeps hk1) hm (hb.keeps hk1) ((hb2 "super" (by decide)).trans (by kernel_rfl)) ⟨rfl, ?_⟩)
    refine wpAny_loadName_free T.kind T.kcls rfl ⟨_, X1 _ _ hcell, rfl⟩ ?_
    refine wpAny_loadName_local T.kind (by rw [hart]; exact T.kslf) hns (by rw [hart]; exact vs1) ?_
    refine ks_wpAny_isType_cls (X1 _ _ hC) rfl ⟨rfl, ?_⟩
    refine ks_wpAny_call_super (X1 _ _ hC) rfl he1 rfl (fun c => nofun) (looks_mroIn X1 T.mroC) (fun h2 e2 k2 => ?_)
    have X2 : K.In h2 := X1.keeps k2
    have he2 := k2 _ _ he1
    have I2 : InstAt h2 a (HandSPX.excO C t0) C none := ⟨he2, rfl, rfl, trivial⟩
    have hal : alongIn K "__init__" ((((Value.ref C :: bm) : List Value).dropWhile (· != .ref C)).drop 1) = some (some (.builtin i)) := by
      have z := T.sup
      unfold ks_superIn at z
      rw [hcl] at z
      exact z
    refine kxs_getMethod KF e2 (looks_opaque X2 T.opq) (l₀ := .ref C :: bm) ?_ rfl X2 hal (I2.type.andThen (looks_subIn X2 T.subB)) (ks_ne X2 I2 hcl) (by decide) ?_
    · exact fun A Q E s k q => wpAny_bind ((looks_clsIn X2 hcl) A _ E s k (wpAny_pure q))
    · rw [show starEach [.Constant (.str b.msg) b.j b.p3] (ksEnv qual scope s.heap.objs.size f (.ref cda) cc) = [(false, eval (.Constant (.str b.msg) b.j b.p3) (ksEnv qual scope s.heap.objs.size f (.ref cda) cc))] from rfl]
      refine kxs_callWith (i := i) (x := a) rfl (evalArgs_plain (spliced_cons (wpAny_Constant_str (k := b.j) (pos := b.p3) (spliced_nil ⟨?_, ?_⟩))))
      · exact Heap.get?_push_at rfl rfl
      have k3 : ∀ c o, h2.get? c = some o → (h2.push (kxs_mw i a)).get? c = some o := fun c o z => Heap.get?_push_of_some _ z
      refine call_mw (bm := bm) FB (k3 _ _ (X2 _ _ hC)) (k3 _ _ he2) (Heap.get?_push_at rfl rfl) (by show 1 ≤ sizeLine; rw [sizeLine_eq]; omega) fun h4 t1 k4 he4 => ?_
      have neL : s.heap.objs.size ≠ a := fun z => by
        have y := Heap.lt_size he
        rw [z] at y
        exact absurd y (Nat.lt_irrefl _)
      have kk : ∀ c o, c ≠ a → h1.get? c = some o → h4.get? c = some o := fun c o hc z => k4 c o hc (k3 _ _ (k2 _ _ z))
      have neC : C ≠ a := Ne.symm (ks_ne X2 I2 hcl)
      have X4 : K.In h4 := fun c o z => by
        by_cases hc : c = a
        · rw [hc, hKa] at z
          cases z
        · exact kk c o hc (X1 c o z)
      obtain ⟨oL, es, ep, hL, rL⟩ := hns
      have hns4 : h4.Ns s.heap.objs.size (fun x => ([(b.slf, Value.ref a), (b.par, u)] : List (Str × Value)).reverse.lookup x) := ⟨oL, es, ep, kk _ _ neL hL, rL⟩
      show _root_.PySem.wpAt (model prog w) _ _ (execs [.Assign [.Attribute (.Name b.slf b.p6) b.fld b.p7] (.Name b.par b.p8) b.p9] (ksEnv qual scope s.heap.objs.size f (.ref cda) cc)) _ _ _
      refine wpAt_of_wpAny (wpAny_execs_cons (plainObj_wpAny_Assign_Attribute (wpAny_Name (wpAny_loadName_local T.kind T.kpar hns4 vp1 ?_) T.d2) (T.hs2 _)))
      refine wpAny_Name (wpAny_loadName_local T.kind T.kslf hns4 vs1 ?_) T.d1
      refine set_plain X4 (ox := HandSPX.excO C t1) (od := none) ⟨he4, rfl, rfl, trivial⟩ T.sa ?_
      refine osaX X4 he4 hcl (fun y => by show refuseLoop y "__setattr__" (.ref C :: bm) = _; rw [refuseLoop_ref]; exact refsB_lets lets y bm hbm) T.mroO rfl T.nof fun h5 tk5 dx k5 dn dne he5 n5 => ?_
      refine wpAny_execs_nil ?_
      have up : s.heap.objs.size ≤ dx := Nat.le_trans (Nat.le_of_lt (Heap.lt_size (kk _ _ neL hL))) dn
      exact fin h5 tk5 dx t1 (fun c o hc z => k5 c o hc (kk c o hc (hk1 _ _ z))) up dne he5 n5
end
end PM

/-! raise C(e); defs that raise; their calls -/
namespace PM
open PySem PySem.Spec PyProof.Rows L2
open Builtin Builtin.ObjectAttr
/-- what is known of a class of errors that keep one thing -/
structure ErrK (P : Program) (K : PySem.W.Frag) (C : Addr) (fld : Str) : Prop where
  ex : ∃ (f cc cda : Addr) (B i newId : String) (bmB : List Value) (b : SupSt) (qual : Str) (params : Arguments) (scope : Scope), SupK P K C f cc cda B i newId bmB b qual params scope ∧ b.fld = fld ∧ PySem.W.KxsFacts B i ∧ IniF B i ∧ (∃ (B0 init0 : String) (bm0 : List Value), ExcBaseFacts B0 newId init0 bm0 ∧ LineF B0 bmB) ∧
    (∀ y : Value, refuseLoop y "__setattr__" bmB = pure ()) ∧ PySem.W.findIn K (.ref C) "__init__" = some (some (.ref f)) ∧ PySem.W.typeIn K (.ref f) = some (.type "function")
  keep : PySem.W.keepIn K (.ref C) = true
  exc : PySem.W.subIn K (.ref C) (.type "BaseException") = some true
  typ : PySem.W.typeIn K (.ref C) = some (.type "type")
section
variable {X : Cx} {C : Addr} {fld x : Str} {e : Expr} {te : TE} {p pos : Pos}
def tErr (C : Addr) (fld : Str) (te : TE) : L2.St → Hp → XK → Prop := fun σ H Q => te σ H fun v H1 => ∀ d, H1 d = none → Q (.ref C) (some d) (upd H1 d (.xd [(fld, v)]))
theorem pmk_sup (T : ErrK X.prog X.K C fld) (hm : X.mg "super" = none) (hr : Room 1 X.A) (hg : Gl X x) (gC : X.mg x = some (.ref C)) (he : PE X e te) (hdb : (x == ("__debug__" : Str)) = false := by decide)
    (hs : starEach [e] X.env = (false, eval e X.env) :: starEach [] X.env := by rfl) : PMk X (.Call (.Name x p) [e] [] pos) (tErr C fld te) := by
  intro pins s σ H Q I h
  obtain ⟨f, cc, cda, B, i, newId, bmB, b, qual, params, scope, S, hfl, KF, FB, ⟨B0, init0, bm0, F0, L0⟩, lets, iC, tI⟩ := T.ex
  obtain ⟨nm, q, N, bs, bm, sn, sub, ab, col, dd, k0, k1, k2, k3, k5, hC, hbm⟩ := S.cls
  refine wpAny_Call_Name_kw (ld_glob I hg gC ?_ hdb)
  refine PySem.W.callWith_K (h₀ := X.base) I.ok.mod.kin T.keep ?_ hs (by rfl)
  rw [hs]
  show wpAny _ _ (spliced ((false, eval e X.env) :: backTo pos (starEach [] X.env))) _ _ s
  refine Calls.spliced_cons (thn (he.run pins s σ H _ I h) fun u s1 ⟨v, H1, I1, r1, q1⟩ => Calls.spliced_nil ⟨I1.kIn, ?_⟩)
  show wpAny _ _ (call (.ref C) [u]) _ _ _
  obtain ⟨hp, g, dr, tk, os⟩ := s1
  have rm : Room 0 (X.A.under (.builtin "type.__call__" ⟨.ref C :: [u], []⟩)) := hr.make C [u] []
  have kk : ∀ c o, hp.get? c = some o → ((hp.push (PySem.W.kdv_tup [u])).push (HandSPX.excO C hp.objs.size)).get? c = some o := fun c o z => Heap.get?_push_of_some _ (Heap.get?_push_of_some _ z)
  have ha : ((hp.push (PySem.W.kdv_tup [u])).push (HandSPX.excO C hp.objs.size)).get? (hp.objs.size + 1) = some (HandSPX.excO C hp.objs.size) := by heap_get
  have hKa : X.K.lookup (hp.objs.size + 1) = none := by
    cases z : X.K.lookup (hp.objs.size + 1) with
    | none => rfl
    | some o =>
      have y := Heap.lt_size (I1.kIn _ _ z)
      exact absurd y (by show ¬ (hp.objs.size + 1 < hp.objs.size); omega)
  have up : ∀ c o, X.base.get? c = some o → hp.get? c = some o := I1.bk
  obtain ⟨mb, hb1, hb2⟩ := I1.mod.blt
  refine wpAny_call (call_new F0 ⟨(refsB_has B0 bm hbm).trans L0.hB, (refsB_has _ bm hbm).trans L0.hA, (refsB_has _ bm hbm).trans L0.hN⟩ (I1.kIn _ _ hC) (PySem.W.looks_findIn I1.kIn iC) (fun self => PySem.W.bind_fn I1.kIn self tI) (by show 1 ≤ sizeLine; rw [sizeLine_eq]; omega) ?_)
  refine run_sup S KF FB lets rm.depth hKa (I1.kIn.keeps kk) ((I1.mod.nolimit.keeps up).keeps kk) ((I1.mod.glob.keeps up).keeps kk) hm ((hb1.keeps up).keeps kk) hb2 ha fun h' tk' dx t1 k dn dne he' n1 => ⟨rfl, ?_⟩
  rw [hfl] at n1
  obtain ⟨G, gk, gn⟩ := restrict h' fun c => decide (c ≠ hp.objs.size + 1)
  have g1 : ∀ c, c ≠ hp.objs.size + 1 → G.get? c = h'.get? c := fun c hc => gk c (decide_eq_true hc)
  have g2 : G.get? (hp.objs.size + 1) = none := gn _ (decide_eq_false fun z => z rfl)
  have old : ∀ c o, hp.get? c = some o → G.get? c = some o := fun c o z => by
    have nc : c ≠ hp.objs.size + 1 := fun y => by
      have l := Heap.lt_size z
      rw [y] at l
      exact absurd l (Nat.not_lt.mpr (Nat.le_succ _))
    rw [g1 c nc]
    exact k c o nc (kk c o z)
  have szd : hp.objs.size ≤ dx := by
    have l : ((hp.push (PySem.W.kdv_tup [u])).push (HandSPX.excO C hp.objs.size)).objs.size ≤ dx := dn
    have l2 : hp.objs.size + 1 < ((hp.push (PySem.W.kdv_tup [u])).push (HandSPX.excO C hp.objs.size)).objs.size := Heap.lt_size ha
    exact Nat.le_trans (Nat.le_of_lt (Nat.lt_of_succ_lt l2)) l
  have hn : H1 dx = none := I1.hok.fresh szd
  have J : Inv X pins σ (upd H1 dx (.xd [(fld, v)])) ⟨G, g, dr, tk', os⟩ := I1.laid (t' := tk') (a := dx) (o := .xd [(fld, v)]) (h' := G) old szd ⟨_, n1.at fun o y => (g1 dx dne).trans y, fun y => by
    show RelO (List.lookup y [(fld, v)]) (if y = fld then some u else none)
    by_cases z : y = fld
    · subst z
      rw [if_pos rfl]
      simp [List.lookup]
      exact r1
    · rw [if_neg z]
      have z2 : (y == fld) = false := beq_eq_false_iff_ne.mpr z
      simp [List.lookup, z2]
      exact True.intro⟩
  refine ⟨hp.objs.size + 1, _, _, ⟨G, g, dr, tk', os⟩, _, .ref C, some dx, rfl, J, fun c o z => ?_, g2, he', ⟨rfl, rfl⟩, rfl, rfl, ?_, rfl, I1.bare, raises_own T.exc T.typ, q1 dx hn⟩
  · by_cases nc : c = hp.objs.size + 1
    · have z : G.get? c = some o := z
      rw [nc, g2] at z
      cases z
    · exact (g1 c nc).symm.trans z
  · rw [upd_ne (Ne.symm dne)]
    exact I1.hok.fresh (Nat.le_succ _)
end
end PM

/-! raise, calls of defs that raise, such defs -/
namespace PM
open PySem PySem.Spec PyProof.Rows L2
def mRaise (c : Nat) (f : Str) (m : ME) : MS := fun ρ => (m ρ).bind fun x ρ1 => .exc (.own c [(f, x.1)]) ρ1
/-- a wish that looks at no slot -/
abbrev WF (E : XK) : WX := fun cls d _ H => E cls d H
def mCallX (f : Fn) (ma : MA) : ME := fun ρ => (ma ρ).bind fun xs ρ1 => match f none xs with
  | .ret x none => .ok x ρ1
  | .exc x none => .exc x ρ1
  | _ => .stuck
theorem XcAt.step {w : Wd} {O O' : Av} {H : Hp} {cls : Value} {d : Option Addr} (h : ∀ a, O' a → O a) : ∀ {x : Xc}, XcAt w O H cls d x → XcAt w O' H cls d x
  | .own c [], z => z
  | .own c (f :: fs), ⟨x1, a, vs, x2, x3, x4, x5⟩ => ⟨x1, a, vs, x2, fun q => x3 (h a q), x4, RepL.step (mono_step h) _ _ x5⟩
  | .ty n, z => z
section
variable {w : Wd} {W : WX} {X : Cx} {c : Nat} {fld x : Str} {e : Expr} {es : List Expr} {m : ME} {ma : MA} {p pos pos' : Pos} {E : XK} {f : Fn} {k n j : Nat}
theorem pms_raise1 (tk : Takes X W) (T : ErrK X.prog X.K (w.cl c) fld) (hm : X.mg "super" = none) (hr : Room 1 X.A) (hg : Gl X x) (gC : X.mg x = some (.ref (w.cl c))) (he : PM X w W e m) (hc : X.calm = true := by rfl) (hdb : (x == ("__debug__" : Str)) = false := by decide)
    (hs : starEach [e] X.env = (false, eval e X.env) :: starEach [] X.env := by rfl) : PMS X w W (.Raise (some (.Call (.Name x p) [e] [] pos)) none pos') (mRaise c fld m) := by
  obtain ⟨te, pe, se⟩ := he
  refine ⟨_, ps_raise hc tk (pmk_sup T hm hr hg gC pe hdb hs), fun F O ρ σ H E hw R hh => ?_⟩
  refine se.bindS hw R hh fun y v ρ1 O1 H1 st1 R1 rv h1 d hd => ?_
  subst hw
  obtain ⟨O2, s2, R2, r2, s3⟩ := VlAt.release st1 R1 R.doh rv
  have g : Grow H1 (upd H1 d (.xd [(fld, v)])) := Grow.new hd
  refine h1 O2 σ _ _ _ (s3.trans g.step) (R2.grow g) ⟨rfl, d, [v], rfl, R2.fresh hd, upd_same, ?_⟩
  simp only [List.map_cons, List.map_nil, RepL]
  exact ⟨v, [], rfl, Rep.step g.step _ _ r2, rfl⟩
theorem sim_callX {ta : TA} (ha : SimA w (WF E) ta ma) (hn : ∀ (ρ ρ1 : En) (xs : List D), ma ρ = .ok xs ρ1 → xs.length = k) : Sim w (WF E) (tCall (spOf w k f) [] E ta) (mCallX f ma) := fun F O ρ σ H Q hw R hh => by
  subst hw
  have key : Hold F (WF E) O σ H (RV F σ H) Q ((ma ρ).bind fun xs ρ1 => if xs.length = k then (match f none xs with
    | .ret x none => .ok x ρ1
    | .exc x none => .exc x ρ1
    | _ => .stuck) else .stuck) := by
    unfold mCallX at hh
    cases q : ma ρ with
    | ok xs ρ1 =>
      rw [q] at hh
      show Hold F (WF E) O σ H (RV F σ H) Q (if xs.length = k then _ else _)
      rw [if_pos (hn ρ ρ1 xs q)]
      exact hh
    | exc x ρ1 => rw [q] at hh; exact hh
    | stuck => rw [q] at hh; exact hh
  refine ha.bind rfl R key fun xs vs ρ1 O1 H1 st1 R1 rs h1 => ?_
  split at h1
  · rename_i hk
    show spOf _ _ _ (vs ++ []) H1 Q E
    rw [List.append_nil]
    refine ⟨O1, none, xs, R1.dom, by rw [rs.length]; exact hk, rs, ?_⟩
    split at h1
    · rename_i z hz
      rw [hz]
      refine ⟨rfl, fun H' v sy rf => ?_⟩
      have g : Grow H1 H' := fun a o e => sy.kept a o (fun q => by cases q.1) e
      obtain ⟨d, b⟩ := z
      cases b with
      | false => exact h1 O1 H' v (st1.trans g.step) (R1.grow g) rf.1
      | true =>
        obtain ⟨a, m, e1, e2, e3, e4, _⟩ := rf
        exact h1 (ins O1 a) H' v (st1.trans (ins_step g e2)) (R1.guard g e2 e4.some) ⟨a, m, e1, st1.none_back e2, .inr rfl, e3, e4, R1.apart e2⟩
    · rename_i z hz
      rw [hz]
      refine ⟨rfl, fun H' cls d sy _ xa => ?_⟩
      have g : Grow H1 H' := fun a o e => sy.kept a o (fun q => by cases q.1) e
      exact h1 O1 H' cls d (st1.trans g.step) (R1.grow g) xa
    · exact h1.elim
  · exact h1.elim
/-- a def of the module that may raise -/
def DefX (P : Program) (wo : World) (K : PySem.W.Frag) (mg : Str → Option Value) (base : Heap) (w : Wd) (x : Str) (n j : Nat) (f : Fn) : Prop :=
  ∃ a fd ps, ps.length = n ∧ FnOk P wo K mg base (L2.CX P wo) j a fd ps (spOf w n f) ∧ mg x = some (.ref a) ∧ PySem.W.keepIn K (.ref a) = true ∧ Binds K fd ps []
theorem pm_callX (tk : Takes X (WF E)) (F : DefX X.prog X.w X.K X.mg X.base w x n j f) (hr : Room j X.A) (hg : Gl X x) (ha : PMA X w (WF E) (e :: es) ma) (hn : Len ma n) (hd : (x == ("__debug__" : Str)) = false := by decide) (he : starEach (e :: es) X.env = (false, eval e X.env) :: starEach es X.env := by rfl) (hpl : (backTo pos (starEach es X.env)).any (·.1) = false := by rfl) :
    PM X w (WF E) (.Call (.Name x p) (e :: es) [] pos) (mCallX f ma) := by
  obtain ⟨a, fd, ps, hl, F, hm, hk, hb⟩ := F
  obtain ⟨ta, pa, sa⟩ := ha
  exact ⟨_, pe_call F hr hg hm hk hb .nil (passes_call tk fun _ _ _ _ z => z) pa hd he hpl, sim_callX sa hn⟩
end
section
variable {P : Program} {wo : World} {K : PySem.W.Frag} {mg : Str → Option Value} {base : Heap} {w : Wd}
theorem fn_okX (hT : w.T = []) {x qual : Str} {st : Stmt} {f : Addr} {fd : FuncData} {N ps : List Str} {k : Nat} {m : MS} (F : Fun K x qual st f fd) (S : FnScope N ps (defScope st)) (hl : ps.length ≤ N.length)
    (hb : ∀ (cdv : Value) (A : Around) (outer : List Env) (s : Shared) (H : Hp) (E : XK), Room k (A.deeper (envOfC qual (defScope st) s.heap.objs.size f cdv)) → Takes (cxOf (L2.CX P wo) P wo K mg base N qual (defScope st) f cdv A outer s H E) (WF E) →
      PassesOwn (model P wo) (cxOf (L2.CX P wo) P wo K mg base N qual (defScope st) f cdv A outer s H E).A (cxOf (L2.CX P wo) P wo K mg base N qual (defScope st) f cdv A outer s H E).env (cxOf (L2.CX P wo) P wo K mg base N qual (defScope st) f cdv A outer s H E).xe →
      PMSs (cxOf (L2.CX P wo) P wo K mg base N qual (defScope st) f cdv A outer s H E) w (WF E) (defBody st) m) : FnOk P wo K mg base (L2.CX P wo) (k + 1) f fd ps (spOf w ps.length (fnSem N.length ps.length m)) := by
  have len : ∀ vs H Q E, spOf w ps.length (fnSem N.length ps.length m) vs H Q E → vs.length = ps.length := fun vs H Q E h => by
    obtain ⟨O, om, ds, _, hl, _⟩ := h
    exact hl
  refine F.okX S len fun cdv A outer s H vs Q E hr h => ?_
  obtain ⟨t, p, sm⟩ := hb cdv A outer s H E hr (takes_of rfl rfl rfl rfl) (passes_of rfl)
  exact ⟨t, p, body_ok hT sm (fun _ _ _ _ z => z) hl h⟩
/-- a method that may raise -/
def MthX (P : Program) (wo : World) (K : PySem.W.Frag) (mg : Str → Option Value) (base : Heap) (w : Wd) (g : Addr) (n j : Nat) (f : Fn) : Prop := FnR P wo K mg base (L2.CX P wo) j g (spOf w n f)
theorem mth_ofX {g : Addr} {j : Nat} {f : Fn} {fd : FuncData} {ps : List Str} (F : FnOk P wo K mg base (L2.CX P wo) j g fd ps (spOf w ps.length f)) (hb : Binds K fd ps []) : MthX P wo K mg base w g ps.length j f :=
  (F.raw hb .nil).imp fun vs H Q E h => by rw [List.append_nil]; exact h
end
end PM

/-! try: body / except X as n: .. / except Y as n: ..; no error leaves it -/
namespace PM
open PySem PySem.Spec PyProof.Rows L2
abbrev Cl := Value × (Addr → Value → Option Addr → TS)
def endsN (i : Nat) (D : Ends) : Ends := { nx := fun σ' H' => D.nx (σ'.set i none) H', rt := D.rt, bk := fun σ' H' => D.bk (σ'.set i none) H', ct := fun σ' H' => D.ct (σ'.set i none) H' }
inductive HdN (X : Cx) (n : Str) : List ExceptHandler → List Cl → Prop
  | nil : HdN X n [] []
  | cons {x : Str} {q : Cl} {st : Stmt} {su : List Stmt} {np ps : Pos} {hs : List ExceptHandler} {l : List Cl} (nm : Names X x q.1)
      (ok : ∀ (a : Addr) (oe : Obj) (cls : Value) (d : Option Addr) (pn : List (Addr × Obj)), Zc cls d oe → (∃ vs, oe.data = .fields vs) → PSs (X.suite a ((a, oe) :: pn)) (st :: su) (q.2 a cls d)) (r : HdN X n hs l) :
      HdN X n (.ExceptHandler (some (.Name x np)) (some n) (st :: su) ps :: hs) (q :: l)
section
variable {X : Cx} {n : Str} {i : Nat} {body : List Stmt} {hd : ExceptHandler} {hs : List ExceptHandler} {l : List Cl} {pos : Pos} {tb : WX → TS}
end
end PM

/-! try: return C.m(x) / except A as n: return (z1, n.f1) / except B as n: return (z2, n.f2) -/
namespace PM
open PySem PySem.Spec PyProof.Rows L2
/-- what is known of an error's class in a clause -/
structure ClK (K : PySem.W.Frag) (C : Addr) (f : Str) : Prop where
  xf : XfC K C
  no : PySem.W.findIn K (.ref C) f = some none
  me : PySem.W.exmOne K (.ref C) (.ref C) = some true
section
variable {F : Fr} {O : Av} {ρ : En} {σ σ' : L2.St} {H H' : Hp} {E : Ends} {i : Nat} {C : Addr} {f z : Str} {dd : D}
end
section
variable {w : Wd} {X : Cx} {c c1 c2 i i0 k : Nat} {f1 z1 f2 z2 : Str} {g : Addr} {fn : Fn} {o x m n x1 x2 : Str} {q0 q1 q2 q3 q4 q5 r0 r1 r2 r3 r4 r5 s0 s1 s2 s3 s4 s5 pos : Pos} {j1 j2 : Nat} {t1 t2 : Nat} {pl : Sem Bool} {pl0 : Pos}
end
end PM

/-! own lists, further; is None; name += e -/
namespace PM
open PySem PySem.Spec PyProof.Rows L2
section
variable {w : Wd} {W : WX} {X : Cx} {pos p pos' : Pos} {x y z : Str} {a b e : Expr} {ma mb m mk : ME} {mr : MA}
/-! ### is None -/
/-! ### name += e, ints -/
def mAug (i : Nat) (m : ME) : MS := fun ρ => match ρ[i]? with
  | some (.val (.int k)) => (m ρ).bind fun x ρ1 => (match x.1 with
    | .int j => nxt (setV i (.int (k + j)) ρ1)
    | _ => .stuck)
  | _ => .stuck
theorem pms_aug {i : Nat} (hN : X.N.Nodup) (hi : X.N[i]? = some x) (hx : Loc X.env.scope x) (he : PM X w W e m) (hf : X.fn x = true ∨ X.env.scope.names.lookup x = some .local := by first | exact .inl rfl | exact .inr rfl | assumption) : PMS X w W (.AugAssign (.Name x pos') .Add e pos) (mAug i m) := by
  obtain ⟨te, pe, se⟩ := he
  refine ⟨_, ps_aug hN hi hx pe ip_add hf, fun F O ρ σ H E hw R hh => ?_⟩
  subst hw
  unfold mAug at hh
  split at hh
  · rename_i k ek
    obtain ⟨v, ev, rv⟩ := R.slot i _ ek
    simp only [Rep] at rv
    subst rv
    refine ⟨_, ev, ?_⟩
    refine se.bindS rfl R hh fun y u ρ1 O1 H1 st1 R1 ry h1 => ?_
    obtain ⟨O2, s2, R2, r2, s3⟩ := VlAt.release st1 R1 R.doh ry
    have h1 := h1.later s3
    split at h1
    · rename_i j ej
      rw [ej] at r2
      simp only [Rep] at r2
      cases q : setV i (.int (k + j)) ρ1 with
      | none => rw [q] at h1; exact h1.elim
      | some ρ2 =>
        rw [q] at h1
        exact ⟨k, j, rfl, r2, h1 O2 _ H1 (Step.refl _ _) (setV_rel R2 (by simp only [Rep]) q)⟩
    · exact h1.elim
  · exact hh.elim
/-! ### x, y, z = [], [], k; x, y = k, [] -/
end
end PM

namespace PM
open PySem PySem.Spec PyProof.Rows L2
section
variable {w : Wd} {W : WX} {X : Cx} {pos p p1 p2 pos' apos : Pos} {x y z : Str} {a b e k : Expr} {ma mb m mk : ME} {mr : MA}
/-! ### own list == [], != [] -/
section
variable {kk : Nat} (i : Nat) (hK : w.K = X.K) (hr : Room kk X.A) (hN : X.N[i]? = some x) (hv : Vis X.env.scope x) (hd : (x == ("__debug__" : Str)) = false) (hcd : (x == ("__classdict__" : Str)) = false)
include hK hr hN hv hd hcd
end
/-! ### own[lo:hi] -/
def mSlO (i : Nat) (lo hi : MO) : ME := fun ρ => match muOf i ρ with
  | some _ => (lo ρ).bind fun u ρ2 => (hi ρ2).bind fun v ρ3 => (match muOf i ρ3 with
    | some (_, .lst ds) => .ok (.lst (cutD ds u v), true) ρ3
    | _ => .stuck)
  | _ => .stuck
theorem pm_slO (i : Nat) (hK : w.K = X.K) {lo hi : Option Expr} {ml mh : MO} (hl : PMO X w W lo ml) (hh : PMO X w W hi mh) (hN : X.N[i]? = some x := by rfl) (hv : Vis X.env.scope x := by first | exact Or.inl rfl | exact Or.inr (Or.inl rfl) | exact Or.inr (Or.inr rfl)) (hd : (x == ("__debug__" : Str)) = false := by decide)
    (hcd : (x == ("__classdict__" : Str)) = false := by decide) : PM X w W (.Subscript (.Name x p) (.Slice lo hi none p2) pos) (mSlO i ml mh) := by
  obtain ⟨tl, pl, sl⟩ := hl
  obtain ⟨th, ph, sh⟩ := hh
  refine ⟨_, pe_slice sl_list (pe_var hN hv hd hcd) pl ph, fun F O ρ σ H Q hw R hh => ?_⟩
  subst hw
  unfold mSlO at hh
  split at hh
  · rename_i sm q
    obtain ⟨e0, g0⟩ := muOf_some (s := sm.1) (m := sm.2) q
    obtain ⟨c, ec, oc, mc⟩ := R.muAt e0 g0
    refine ⟨.ref c, ec, ?_⟩
    refine sl.bind rfl R hh fun u ρ2 O2 H2 st2 R2 h2 => ?_
    refine sh.bind rfl R2 (h2.laterV st2) fun v ρ3 O3 H3 st3 R3 h3 => ?_
    split at h3
    · rename_i s ds q3
      obtain ⟨e1, g1⟩ := muOf_some q3
      obtain ⟨c', ec', oc', vs, hvs, hr⟩ := R3.muAt e1 g1
      rw [ec] at ec'
      cases ec'
      exact ⟨c, vs, rfl, .inl (.inl hvs), fun d hd => (Hold.go h3 st3 R3).newL (hr.cut u v) hd⟩
    · exact h3.elim
  · exact hh.elim
/-! ### own.extend(e) -/
/-! ### own[k], y = e -/
end
end PM

/-! text * int; list(text) -/
namespace PM
open PySem PySem.Spec PyProof.Rows L2
section
variable {w : Wd} {W : WX} {X : Cx} {pos p : Pos} {a b e : Expr} {ma mb : ME} {mr : MA}
end
end PM

/-! str(x), len(x), y in x of an instance; tuple == instance -/
namespace PM
open PySem PySem.Spec PyProof.Rows L2
def rLenO (C : Addr) (sp : Sp) : List V → Hp → VK → Prop := fun xs H Q => ∃ a dx vs, xs = [V.ref a] ∧ SlX.Slt H a C dx vs ∧ sp [.ref a] H (fun z H' => ∃ i : Int, z = .int i ∧ 0 ≤ i ∧ i < 2 ^ 63 ∧ Q z H') E0
section
variable {X : Cx} {C g : Addr} {sp : Sp} {n : Nat}
theorem call_lenOb (hs : PySem.W.findIn X.K (.ref C) "__len__" = some (some (.ref g))) (hf : PySem.W.isFn X.K (.ref g) = true) (F : FnR X.prog X.w X.K X.mg X.base CX0 n g sp) (hr : Room (n + 1) X.A) : CallR X (.builtin "len") (rLenO C sp) := by
  intro pins s σ H xs us Q I r h
  obtain ⟨a, dx, vs, rfl, hsl, q⟩ := h
  obtain ⟨u, rfl, ru⟩ := r.one
  cases (show u = Value.ref a from ru)
  obtain ⟨sl, od, _, J, _⟩ := SlX.slt_inst I hsl
  obtain ⟨m, hF⟩ := I.fr
  have r1 : Room n X.A.in1 := Room.in1 hr
  refine PySem.W.len_K hF I.ok.mod.kin J hs hf (wpAny_mono (wpAny_call (SlX.run_at (us := [.ref a]) (ws := [.ref a]) F r1 I.env0.in1 pass0 I (.cons rfl .nil) q)) (fun w s' z => ?_) fun _ _ x => x)
  obtain ⟨z', H', I', rz, i, ei, h0, h1, qz⟩ := z
  subst ei
  obtain ⟨t, e⟩ := (show ∃ t, w = Value.int i t from rz)
  cases e
  exact ⟨⟨h0, h1⟩, .int i, H', I'.tok _, ⟨_, rfl⟩, qz⟩
end
/-- what a class with such defs must say -/
structure DunOk (w : Wd) (c : Nat) (f : Str) (g : Addr) : Prop where
  at_ : PySem.W.findIn w.K (.ref (w.cl c)) f = some (some (.ref g))
  fn : PySem.W.isFn w.K (.ref g) = true
def lenOb (c : Nat) (f : Fn) (x : D) : Option Vl := if isObj c x = true then (match fnN f [x] with
  | some (.int i, false) => if 0 ≤ i ∧ i < 2 ^ 63 then some (dI i) else none
  | _ => none) else none
section
variable {w : Wd} {W : WX} {X : Cx} {pos p : Pos} {a b e : Expr} {ma mb : ME} {mr : MA} {c n : Nat} {g : Addr} {fn : Fn}
theorem pm_lenOb (hK : w.K = X.K) (hp : DunOk w c "__len__" g) (F : MthOk X.prog X.w X.K X.mg X.base w g 1 n fn) (hr : Room (n + 1) X.A) (hg : Gl X "len") (hm : X.mg "len" = none) (ha : PMA X w W [e] mr) (he : starEach [e] X.env = (false, eval e X.env) :: starEach [] X.env := by rfl) : PM X w W (.Call (.Name "len" p) [e] [] pos) (mCall (one1 (lenOb c fn)) mr) :=
  pm_callB (call_lenOb (hK ▸ hp.at_) (hK ▸ hp.fn) F hr) (fun O H xs z vs Q dm e rs k => by
    obtain ⟨x, rfl, ez⟩ := one1_some e
    clear e
    obtain ⟨v, rfl, hv⟩ := repl1 rs
    unfold lenOb at ez
    split at ez
    · rename_i ho
      split at ez
      · rename_i u eu
        split at ez
        · rename_i hu
          cases ez
          obtain ⟨fs, rfl⟩ := isObj_some ho
          obtain ⟨a, dx, us, ea, h1, _⟩ := slt_of hv
          subst ea
          refine ⟨a, dx, _, rfl, h1, sp_of dm rfl eu (by simp only [RepL]; exact ⟨_, _, rfl, hv, rfl⟩) fun v' H' gr gv => ?_⟩
          have gv : Rep w O H' (.int u) v' := gv
          simp only [Rep] at gv
          subst gv
          exact ⟨u, rfl, hu.1, hu.2, k _ H' gr (by simp only [GoAt, dI, Rep])⟩
        · cases ez
      · cases ez
    · cases ez) hg hm PySem.boot_len ha (by decide) (by decide) he
end
end PM

/-! the head's facts, with defs that close over their class (super()), and classes of errors -/
namespace PM
open PySem PySem.Spec PyProof.Rows L2
open PySem.W (Frag findIn typeIn subIn keepIn)
/-- an __init__ that closes over its class -/
structure DfC where
  at_ : Frag → Addr
  name : Str
  qual : Str
  st : Stmt
def fnC (K : Frag) (a : Addr) : He.FnV := match K.lookup a with
  | some ⟨_, _, .func fd, _⟩ => some (fd.name, fd.qualname, fd.params, fd.body, fd.scope, fd.globals, [], fd.defaults, fd.builtins)
  | _ => none
def DfC.val (d : DfC) : He.FnV := some (d.name, d.qual, defArgs d.st, .stmts (defBody d.st), defScope d.st, mainGlobals, [], .none, builtinsNs)
/-- where the code object and the cell of such a def stand -/
def codeAt (K : Frag) (a : Addr) : Addr := match K.lookup a with
  | some ⟨_, _, .func fd, _⟩ => (match fd.code with | .ref c => c | _ => 0)
  | _ => 0
def cellAt (K : Frag) (a : Addr) : Addr := match K.lookup a with
  | some ⟨_, _, .func fd, _⟩ => (match fd.closure with | [(_, c)] => c | _ => 0)
  | _ => 0
def clB (K : Frag) (a : Addr) : Bool := match K.lookup a with
  | some ⟨_, _, .func fd, _⟩ => (match fd.code, fd.closure with | .ref _, [(n, _)] => decide (n = ("__class__" : Str)) | _, _ => false)
  | _ => false
theorem fnC_ok {K : Frag} {d : DfC} (e : fnC K (d.at_ K) = d.val) (c : clB K (d.at_ K) = true) : ∃ (oc : Value) (od : Option Addr) (kV doc pm : Value) (an : Option Addr) (ct : Value) (osl : Array (Option Value)),
    K.lookup (d.at_ K) = some ⟨oc, od, .func (PySem.W.ksFn d.name d.qual (defArgs d.st) (defBody d.st) (defScope d.st) .none kV doc pm an (.ref (codeAt K (d.at_ K))) ct (cellAt K (d.at_ K))), osl⟩ := by
  unfold fnC at e
  unfold clB at c
  unfold codeAt cellAt
  cases q : K.lookup (d.at_ K) with
  | none => rw [q] at c; cases c
  | some o =>
    obtain ⟨oc, od, dt, osl⟩ := o
    rw [q] at c e
    cases dt with
    | func fd =>
      obtain ⟨n1, n2, n3, n4, n5, n6, n7, n8, n9, n10, n11, n12, n13, n14, n15⟩ := fd
      have e2 : (some (n1, n2, n3, n4, n5, n6, [], n8, n15) : He.FnV) = d.val := e
      unfold DfC.val at e2
      simp only [Option.some.injEq, Prod.mk.injEq] at e2
      obtain ⟨h1, h2, h3, h4, h5, h6, _, h8, h9⟩ := e2
      subst h1 h2 h3 h4 h5 h6 h8 h9
      cases n13 with
      | ref cd =>
        cases n7 with
        | nil => cases c
        | cons p r =>
          cases r with
          | cons _ _ => cases c
          | nil =>
            obtain ⟨nm, cc⟩ := p
            have c : decide (nm = ("__class__" : Str)) = true := c
            have c := of_decide_eq_true c
            subst c
            exact ⟨oc, od, _, _, _, _, _, osl, rfl⟩
      | _ => cases c
    | _ => cases c
def obsX (cs : List Chk) (fn : List DfM) (fc : List DfC) (ts : List He.Tab) (K : Frag) : AlM := (((cs.all fun c => c K) && (fn.all fun d => d.ok K) && fc.all fun d => clB K (d.at_ K), (fn.map fun d => fnM K (d.at_ K)) ++ fc.map fun d => fnC K (d.at_ K)), ts.map fun t => He.dicW K (t.1 K))
def valX (fn : List DfM) (fc : List DfC) (ts : List He.Tab) (w : World) : AlM := ((true, fn.map DfM.val ++ fc.map DfC.val), ts.map fun t => some (He.keysIn w.params t.2))
def SaysX (cs : List Chk) (fn : List DfM) (fc : List DfC) (ts : List He.Tab) (w : World) (K : Frag) : Prop := obsX cs fn fc ts K = valX fn fc ts w
section
variable {cs : List Chk} {fn : List DfM} {fc : List DfC} {ts : List He.Tab} {w : World} {K : Frag}
theorem SaysX.m (c : SaysX cs fn fc ts w K) : SaysM cs fn ts w K ∧ (fc.map fun d => fnC K (d.at_ K)) = fc.map DfC.val ∧ (fc.all fun d => clB K (d.at_ K)) = true := by
  have e1 : ((cs.all fun c => c K) && (fn.all fun d => d.ok K) && fc.all fun d => clB K (d.at_ K)) = true := congrArg (fun z : AlM => z.1.1) c
  have e2 : (fn.map fun d => fnM K (d.at_ K)) ++ (fc.map fun d => fnC K (d.at_ K)) = fn.map DfM.val ++ fc.map DfC.val := congrArg (fun z : AlM => z.1.2) c
  have e3 : ts.map (fun t => He.dicW K (t.1 K)) = ts.map fun t => some (He.keysIn w.params t.2) := congrArg (fun z : AlM => z.2) c
  obtain ⟨h1, h2⟩ := He.ba e1
  obtain ⟨h3, h4⟩ := List.append_inj e2 (by simp)
  refine ⟨?_, h4, h2⟩
  show obsM cs fn ts K = valM fn ts w
  unfold obsM valM
  rw [h1, h3, e3]
theorem SaysX.cl (c : SaysX cs fn fc ts w K) (i : Nat) {d : DfC} (h : fc[i]? = some d := by rfl) : fnC K (d.at_ K) = d.val ∧ clB K (d.at_ K) = true := by
  obtain ⟨_, h4, h2⟩ := c.m
  have e2 : (fc.map fun d => fnC K (d.at_ K))[i]? = (fc.map DfC.val)[i]? := by rw [h4]
  rw [List.getElem?_map, List.getElem?_map, h] at e2
  exact ⟨Option.some.inj e2, List.all_eq_true.mp h2 d (List.mem_of_getElem? h)⟩
end
/-! ### a class of errors -/
def supOf : List Stmt → Option SupSt
  | [.Expr (.Call (.Attribute (.Call (.Name _ p0) [] [] p1) _ p2) [.Constant (.str msg) j p3] [] p4) p5, .Assign [.Attribute (.Name slf p6) fld p7] (.Name par p8) p9] => some ⟨msg, fld, slf, par, j, p0, p1, p2, p3, p4, p5, p6, p7, p8, p9⟩
  | _ => none
/-- what K says of the class C, its __init__ at f -/
def errB (C : Str) (fld : Str) (B i newId : String) (bmB : List Value) (file : Str) : Chk := fun K =>
  let c := He.ga K C
  let f := metAt C "__init__" K
  (match K.lookup c with
    | some ⟨.type ty, _, .cls cd, sl⟩ => decide (ty = "type") && (decide (cd.mro.head? = some (.ref c)) && (refsB bmB cd.mro.tail && (cd.hasDict && (!cd.hasDel && (match sl.toList with | [_, _, _, _, some (.builtin n), _] => decide (n = newId) | _ => false)))))
    | _ => false) &&
  (PySem.W.codeIn K (.ref (codeAt K f)) (C ++ ".__init__") &&
  ((match K.lookup (codeAt K f) with | some ⟨_, _, .fields vs, _⟩ => (match (vs[2]? : Option Value) with | some (.str z _) => decide (z = file) | _ => false) | _ => false) &&
  ((match K.lookup (cellAt K f) with | some ⟨_, _, .cell (some (.ref D)), _⟩ => decide (D = c) | _ => false) &&
  ((match PySem.W.nsIn K cStatics "thirdparty.any" with | some none => true | _ => false) &&
  ((match PySem.W.ks_superIn K c c "__init__" with | some (some (.builtin n)) => decide (n = i) | _ => false) &&
  (obB (subIn K (.ref c) (.type B)) (some true) && (obB (PySem.W.mroIn K c (.ref c)) (some true) && (obB (PySem.W.mroIn K c (.type "object")) (some true) &&
  (He.eqO (findIn K (.ref c) "__setattr__") (some (some (.builtin "object.__setattr__"))) && ((match findIn K (.ref c) fld with | some none => true | _ => false) &&
  (He.eqO (findIn K (.ref c) "__init__") (some (some (.ref f))) && (decide (typeIn K (.ref f) = some (.type "function")) && (keepIn K (.ref c) && (obB (subIn K (.ref c) (.type "BaseException")) (some true) && decide (typeIn K (.ref c) = some (.type "type"))))))))))))))))
end PM

namespace PM
open PySem PySem.Spec PyProof.Rows L2
open PySem.W (Frag findIn typeIn subIn keepIn ksEnv ksFn)
/-- what the text of such an __init__ says by itself -/
structure SupS (P : Program) (st : Stmt) (b : SupSt) (qual file : Str) : Prop where
  body : b.body = defBody st
  head : ((defArgs st).posonlyargs ++ (defArgs st).args).head?.map (·.arg) = some b.slf
  ne : b.slf ≠ b.par
  kind : (defScope st).kind = .function
  co : (defScope st).isCoroutine = false
  gen : (defScope st).isGenerator = false
  nocell : ∀ x ∈ (defScope st).names, x.2 ≠ .cell
  ksup : (defScope st).names.lookup ("super" : Str) = some .globalImplicit
  kcls : (defScope st).names.lookup ("__class__" : Str) = some .free
  kslf : (defScope st).names.lookup b.slf = some .local
  kpar : (defScope st).names.lookup b.par = some .local
  top : (P.main.scope.names.lookup ("super" : Str)).isSome = false
  file : ((P.main.file : Str) == file) = true
  binds : ∀ (kV doc pm : Value) (an : Option Addr) (cdv ct : Value) (cc : Addr) (us : List Value), us.length = 2 → bindArgs (ksFn "__init__" qual (defArgs st) (defBody st) (defScope st) .none kV doc pm an cdv ct cc) ⟨us, []⟩ = pure ([b.slf, b.par].zip us)
  hi : ∀ L f cda cc, interactive (ksEnv qual (defScope st) L f (.ref cda) cc) = false
  hs1 : ∀ L f cda cc, swapsWith b.call none b.p5.line (ksEnv qual (defScope st) L f (.ref cda) cc) = pure false
  hs2 : ∀ L f cda cc, swapsWith (.Name b.par b.p8) (some (.Attribute (.Name b.slf b.p6) b.fld b.p7)) b.p9.line (ksEnv qual (defScope st) L f (.ref cda) cc) = pure false
  hev : ∀ L f cda cc, ∃ pl : Sem Bool, eval b.call (ksEnv qual (defScope st) L f (.ref cda) cc) = (do
      let ov ← attributeBase (.Call (.Name "super" b.p0) [] [] b.p1) "__init__" (ksEnv qual (defScope st) L f (.ref cda) cc) (eval (.Call (.Name "super" b.p0) [] [] b.p1) (ksEnv qual (defScope st) L f (.ref cda) cc))
      standAt b.p2.atName
      let (fv, first) ← holding [ov] (getMethod ov "__init__" pl)
      callWith b.p4 fv first (backTo b.p4 (starEach [.Constant (.str b.msg) b.j b.p3] (ksEnv qual (defScope st) L f (.ref cda) cc))) [])
  d1 : (b.slf == ("__debug__" : Str)) = false
  d2 : (b.par == ("__debug__" : Str)) = false
theorem b2' {a b : Bool} (h : (a && b) = true) : a = true ∧ b = true := Bool.and_eq_true_iff.mp h
theorem err_ok {P : Program} {K : Frag} {C fld file : Str} {B i newId : String} {bmB : List Value} {st : Stmt} {b : SupSt} (S : SupS P st b (C ++ ".__init__") file) (hfl : b.fld = fld) (h : errB C fld B i newId bmB file K = true)
    (h2 : fnC K (metAt C "__init__" K) = DfC.val ⟨metAt C "__init__", "__init__", C ++ ".__init__", st⟩) (h3 : clB K (metAt C "__init__" K) = true) (KF : PySem.W.KxsFacts B i) (FB : IniF B i) (NF : ∃ (B0 init0 : String) (bm0 : List Value), ExcBaseFacts B0 newId init0 bm0 ∧ LineF B0 bmB) (lets : ∀ y : Value, refuseLoop y "__setattr__" bmB = pure ()) : ErrK P K (He.ga K C) fld := by
  unfold errB at h
  obtain ⟨g1, h⟩ := b2' h
  obtain ⟨g2, h⟩ := b2' h
  obtain ⟨g3, h⟩ := b2' h
  obtain ⟨g4, h⟩ := b2' h
  obtain ⟨g5, h⟩ := b2' h
  obtain ⟨g6, h⟩ := b2' h
  obtain ⟨g7, h⟩ := b2' h
  obtain ⟨g8, h⟩ := b2' h
  obtain ⟨g9, h⟩ := b2' h
  obtain ⟨g10, h⟩ := b2' h
  obtain ⟨g11, h⟩ := b2' h
  obtain ⟨g12, h⟩ := b2' h
  obtain ⟨g13, h⟩ := b2' h
  obtain ⟨g14, h⟩ := b2' h
  obtain ⟨g15, g16⟩ := b2' h
  obtain ⟨oc, od, kV, doc, pm, an, ct, osl, hf⟩ := fnC_ok (d := ⟨metAt C "__init__", "__init__", C ++ ".__init__", st⟩) h2 h3
  have hf : K.lookup (metAt C "__init__" K) = some ⟨oc, od, .func (ksFn "__init__" (C ++ ".__init__") (defArgs st) (defBody st) (defScope st) .none kV doc pm an (.ref (codeAt K (metAt C "__init__" K))) ct (cellAt K (metAt C "__init__" K))), osl⟩ := hf
  have no : findIn K (.ref (He.ga K C)) fld = some none := by
    split at g11
    · assumption
    · cases g11
  refine ⟨⟨metAt C "__init__" K, cellAt K (metAt C "__init__" K), codeAt K (metAt C "__init__" K), B, i, newId, bmB, b, C ++ ".__init__", defArgs st, defScope st, ?_, hfl, KF, FB, NF, lets, He.eqO_ok g12, of_decide_eq_true g13⟩, g14, of_decide_eq_true g15, of_decide_eq_true g16⟩
  refine ⟨?_, ⟨oc, od, kV, doc, pm, an, ct, osl, by rw [S.body]; exact hf, fun s us hl => .of_eq (by rw [S.body]; exact S.binds _ _ _ _ _ _ _ us hl)⟩, g2, ?_, ?_, S.head, S.ne, S.kind, S.co, S.gen, S.nocell, S.ksup, S.kcls, S.kslf, S.kpar, S.top, ?_, ?_, of_decide_eq_true g7, of_decide_eq_true g8, of_decide_eq_true g9, He.eqO_ok g10, by rw [hfl]; exact no, fun L => S.hi L _ _ _, fun L => S.hs1 L _ _ _, fun L => S.hs2 L _ _ _, fun L => S.hev L _ _ _, S.d1, S.d2⟩
  · split at g1
    · rename_i ty dd cd sl e
      obtain ⟨a1, g1⟩ := b2' g1
      obtain ⟨a2, g1⟩ := b2' g1
      obtain ⟨a3, g1⟩ := b2' g1
      obtain ⟨a4, g1⟩ := b2' g1
      obtain ⟨a5, a6⟩ := b2' g1
      have a1 := of_decide_eq_true a1
      subst a1
      have a2 := of_decide_eq_true a2
      split at a6
      · rename_i k0 k1 k2 k3 nn k5 es
        have a6 := of_decide_eq_true a6
        subst a6
        obtain ⟨nm, bs, mro, ns, qn, hd, sn, sub, ab, col, del⟩ := cd
        simp only at a2 a3 a4 a5
        cases mro with
        | nil => cases a2
        | cons m0 bm =>
          cases a2
          have a5 : del = false := by simpa using a5
          subst a4
          subst a5
          have hsl : sl = #[k0, k1, k2, k3, some (.builtin nn), k5] := by
            obtain ⟨l⟩ := sl
            simp only at es
            rw [es]
          subst hsl
          exact ⟨nm, qn, ns, bs, bm, sn, sub, ab, col, dd, k0, k1, k2, k3, k5, e, a3⟩
      · cases a6
    · cases g1
  · split at g3
    · rename_i ccl cdd vs ccs e
      split at g3
      · rename_i z t ez
        have ezz := of_decide_eq_true g3
        subst ezz
        exact ⟨ccl, cdd, vs, ccs, z, t, e, ez, S.file⟩
      · cases g3
    · cases g3
  · split at g4
    · rename_i cl cld D csl e
      have eD := of_decide_eq_true g4
      subst eD
      exact ⟨cl, cld, csl, e⟩
    · cases g4
  · split at g5
    · assumption
    · cases g5
  · split at g6
    · rename_i nn e
      have en := of_decide_eq_true g6
      subst en
      exact e
    · cases g6
def clkB (C f : Str) : Chk := fun K => xfB K (He.ga K C) && ((match findIn K (.ref (He.ga K C)) f with | some none => true | _ => false) && obB (PySem.W.exmOne K (.ref (He.ga K C)) (.ref (He.ga K C))) (some true))
theorem clkB_ok {K : Frag} {C f : Str} (h : clkB C f K = true) : ClK K (He.ga K C) f := by
  obtain ⟨h1, h⟩ := b2' h
  obtain ⟨h2, h3⟩ := b2' h
  refine ⟨xfB_ok h1, ?_, of_decide_eq_true h3⟩
  split at h2
  · assumption
  · cases h2
def dunB (C f : Str) : Chk := fun K => He.eqO (findIn K (.ref (He.ga K C)) f) (some (some (.ref (metAt C f K)))) && PySem.W.isFn K (.ref (metAt C f K))
theorem dunB_ok {K : Frag} {w : Wd} {C f : Str} {c : Nat} (hK : w.K = K) (hc : w.cl c = He.ga K C) (h : dunB C f K = true) : DunOk w c f (metAt C f K) := by
  obtain ⟨h1, h2⟩ := b2' h
  subst hK
  exact ⟨by rw [hc]; exact He.eqO_ok h1, h2⟩
end PM

/-! list(x), x an instance whose __iter__ gives iter(a tuple that it keeps), with its own __len__ -/
namespace PM
open PySem PySem.Spec PyProof.Rows L2
section
variable {prog : Program} {w : World} {A : Around} {E : Value → Shared → Prop} {s : Shared} {Q : Option Value → Shared → Prop}
end
section
variable {X : Cx} {pins : List (Addr × Obj)} {σ : L2.St} {H0 : Hp} {t it q0 : Addr} {zs : List V} {Rs : Result → Shared → Prop} {A1 : Around}
end
section
variable {prog : Program} {w : World} {A : Around} {E : Value → Shared → Prop} {s : Shared} {t : Addr} {items : Array Value}
end
section
variable {X : Cx}
end
section
variable {P : Program} {wo : World} {K : PySem.W.Frag} {mg : Str → Option Value} {base : Heap}
end
section
variable {X : Cx} {C fi fl : Addr} {i n : Nat} {spL : Sp}
end
section
variable {w : Wd} {W : WX} {X : Cx} {pos p : Pos} {e : Expr} {mr : MA} {c i n : Nat} {g gi : Addr} {fn : Fn}
end
end PM

/-! sets of texts: set(xs), sorted(set), len(set) -/
namespace PM
open PySem PySem.Spec PyProof.Rows L2
section
variable {P : Program} {w : World} {A : Around} {E : Value → Shared → Prop} {s : Shared} {a : Addr} {l : List Str} {h h' : Heap}
theorem SetS.at (R : SetS w h a l) (k : ∀ o, h.get? a = some o → h'.get? a = some o) : SetS w h' a l := by
  obtain ⟨⟨o, es, ep, t, ho, r⟩, nd⟩ := R
  exact ⟨⟨o, es, ep, t, k o ho, r⟩, nd⟩
end
section
variable {prog : Program} {w : World} {A : Around} {R : Result → Shared → Prop} {I : Addr} {fp wr : List Addr} {G : Array GenState → Array GenState → Prop} {n : Nat} {P : Nat → Value → Prop} {St : Nat → Shared → Prop}
end
end PM

/-! set(xs), xs texts -/
namespace PM
open PySem PySem.Spec PyProof.Rows L2
section
variable {P : Program} {w : World} {A : Around} {E : Value → Shared → Prop} {s : Shared}
end
section
variable {X : Cx}
end
end PM

/-! sorted(set(x)), len(set(x)), sorted(d) of texts: what they are worth -/
namespace PM
open PySem PySem.Spec PyProof.Rows L2
section
variable {w : Wd} {W : WX} {X : Cx} {pos p p2 pos2 : Pos} {e : Expr} {mr : MA}
end
end PM

/-! one sign in a text; upper; ''.join(..) -/
namespace PM
open PySem PySem.Spec PyProof.Rows L2
section
variable {w : Wd} {W : WX} {X : Cx} {pos p apos : Pos} {a b e o : Expr} {ma mb m : ME}
end
end PM

/-! dicts with keys ints and texts: d[k], sorted(d), dict(pairs), list(d.items()) -/
namespace PM
open PySem PySem.Spec PyProof.Rows L2
def valD : List D → List D → Key → Option D
  | k' :: ks, d :: ds, k => if keyD k' = some k then some d else valD ks ds k
  | _, _, _ => none
theorem valD_rep {w : Wd} {O : Av} {H : Hp} {k : Key} {d : D} : ∀ {ks ds : List D} {kvs : List (Key × V)}, keysD ks (kvs.map (·.1)) → RepL w O H ds (kvs.map (·.2)) → valD ks ds k = some d → ∃ v, valV kvs k = some v ∧ Rep w O H d v
  | [], ds, kvs, hk, hd, h => by simp [valD] at h
  | k' :: ks, [], kvs, hk, hd, h => by simp [valD] at h
  | k' :: ks, d' :: ds, [], hk, hd, h => by
    simp only [keysD, List.map_nil] at hk
    obtain ⟨_, _, e, _⟩ := hk
    cases e
  | k' :: ks, d' :: ds, p :: kvs, hk, hd, h => by
    simp only [keysD, List.map_cons, List.cons.injEq] at hk
    obtain ⟨k1, ks1, ⟨rfl, rfl⟩, e1, hk⟩ := hk
    simp only [RepL, List.map_cons, List.cons.injEq] at hd
    obtain ⟨v, vs, ⟨rfl, rfl⟩, hv, hd⟩ := hd
    simp only [valD] at h
    split at h
    · rename_i e
      cases h
      rw [e1] at e
      exact ⟨p.2, valV_pos (Option.some.inj e), hv⟩
    · rename_i e
      have ne : ¬ p.1 = k := fun z => e (by rw [e1, z])
      obtain ⟨v, h1, h2⟩ := valD_rep hk hd h
      exact ⟨v, by rw [valV_neg ne]; exact h1, h2⟩
def dgetD : D → D → Option Vl
  | .dct ks ds, y => (keyD y).bind fun k => (valD ks ds k).map fun d => (d, false)
  | _, _ => none
theorem key_rep {w : Wd} {O : Av} {H : Hp} {y : D} {k : Key} {v : V} (h : keyD y = some k) (r : Rep w O H y v) : v = kV k := by
  cases y <;> simp only [keyD] at h <;> first | (cases h; simp only [Rep] at r; exact r) | cases h
section
variable {w : Wd} {W : WX} {X : Cx} {pos p p2 apos cpos : Pos} {a b e o i : Expr} {ma mb m : ME} {mr : MA}
theorem o2_dget : Op2 w (fun x y H Q => ∃ a v, x = V.ref a ∧ DGet H a y (some v) ∧ Q v H) dgetD := fun O H x y z vx vy Q dm e hx hy k => by
  unfold dgetD at e
  split at e
  · rename_i ks ds
    cases q : keyD y with
    | none => rw [q] at e; cases e
    | some kk =>
      rw [q] at e
      simp only [Option.bind_some] at e
      cases q2 : valD ks ds kk with
      | none => rw [q2] at e; cases e
      | some d =>
        rw [q2] at e
        cases e
        simp only [Rep] at hx
        obtain ⟨a, kvs, rfl, h1, h2, h3⟩ := hx
        obtain ⟨v, h4, h5⟩ := valD_rep h2 h3 q2
        have ey := key_rep q hy
        subst ey
        exact ⟨a, v, rfl, .inl ⟨kvs, kk, h1.imp (·.2) (fun ⟨o, q⟩ => ⟨o, q.2⟩), rfl, h4.symm⟩, k _ _ (Grow.refl H) h5⟩
  · cases e
end
end PM

/-! raise C('..'), an error class without own __init__ -/
namespace PM
open PySem PySem.Spec PyProof.Rows L2
def mRaise0 (c : Nat) : MS := fun ρ => .exc (.own c []) ρ
section
variable {w : Wd} {W : WX} {X : Cx} {c j : Nat} {x m : Str} {p p2 pos pos' : Pos} {B newId initId : String} {bmB : List Value}
theorem pms_raise0 (tk : Takes X W) (F : ExcBaseFacts B newId initId bmB) (q : PySem.W.excIn X.K (w.cl c) bmB newId = true) (kC : PySem.W.keepIn X.K (.ref (w.cl c)) = true) (r : Raises X (.ref (w.cl c))) (hg : Gl X x) (gC : X.mg x = some (.ref (w.cl c))) (hc : X.calm = true := by rfl) (hdb : (x == ("__debug__" : Str)) = false := by decide) :
    PMS X w W (.Raise (some (.Call (.Name x p) [.Constant (.str m) j p2] [] pos)) none pos') (mRaise0 c) := by
  refine ⟨_, ps_raise hc tk (pmk_own F q gC kC r hg hdb), fun F O ρ σ H E hw R hh => ?_⟩
  subst hw
  exact hh O σ H _ _ (Step.refl _ _) R ⟨rfl, rfl⟩
end
end PM

/-! try: return f(x, y) / except C: return 'z' -/
namespace PM
open PySem PySem.Spec PyProof.Rows L2
section
variable {w : Wd} {X : Cx} {c i0 i1 k : Nat} {z : Str} {fn : Fn} {f x y x1 : Str} {q0 q1 q2 q3 q4 q5 r4 r5 pos pos2 : Pos} {j1 : Nat}
end
end PM

/-! d[k] = v, d a dict of one's own -/
namespace PM
open PySem PySem.Spec PyProof.Rows L2
def hasK (ks : List D) (kk : Key) : Bool := ks.any fun k => decide (keyD k = some kk)
def replD (kk : Key) (d : D) : List D → List D → List D
  | k :: ks, e :: ds => (if keyD k = some kk then d else e) :: replD kk d ks ds
  | _, _ => []
def putKs (ks : List D) (kk : Key) (k : D) : List D := if hasK ks kk = true then ks else ks ++ [k]
def putDs (ks ds : List D) (kk : Key) (d : D) : List D := if hasK ks kk = true then replD kk d ks ds else ds ++ [d]
theorem keysD_has {kk : Key} : ∀ {ks : List D} {kvs : List (Key × V)}, keysD ks (kvs.map (·.1)) → hasK ks kk = kvs.any fun kv => decide (kv.1 = kk)
  | [], kvs, h => by
    have e : kvs.map (·.1) = [] := h
    have e : kvs = [] := List.map_eq_nil_iff.mp e
    subst e
    rfl
  | k :: ks, [], h => by
    simp only [keysD, List.map_nil] at h
    obtain ⟨_, _, e, _⟩ := h
    cases e
  | k :: ks, p :: kvs, h => by
    simp only [keysD, List.map_cons, List.cons.injEq] at h
    obtain ⟨k1, ks1, ⟨rfl, rfl⟩, e1, h⟩ := h
    have ih := keysD_has (kk := kk) h
    unfold hasK at ih ⊢
    simp only [List.any_cons, ih, e1, Option.some.injEq]
theorem keysD_app : ∀ {ks : List D} {kk : List Key} {k : D} {q : Key}, keysD ks kk → keyD k = some q → keysD (ks ++ [k]) (kk ++ [q])
  | [], kk, k, q, h, e => by
    have h : kk = [] := h
    subst h
    exact ⟨q, [], rfl, e, rfl⟩
  | k' :: ks, kk, k, q, h, e => by
    obtain ⟨k1, ks1, rfl, e1, h⟩ := h
    exact ⟨k1, ks1 ++ [q], rfl, e1, keysD_app h e⟩
theorem repl_rep {w : Wd} {O : Av} {H : Hp} {kk : Key} {d : D} {v : V} (hd : Rep w O H d v) : ∀ {ks ds : List D} {kvs : List (Key × V)}, keysD ks (kvs.map (·.1)) → RepL w O H ds (kvs.map (·.2)) → RepL w O H (replD kk d ks ds) ((kvs.map fun kv => if kv.1 = kk then (kv.1, v) else kv).map (·.2))
  | [], ds, kvs, h, r => by
    have e : kvs.map (·.1) = [] := h
    have e : kvs = [] := List.map_eq_nil_iff.mp e
    subst e
    simp [replD, RepL]
  | k :: ks, ds, [], h, r => by
    simp only [keysD, List.map_nil] at h
    obtain ⟨_, _, e, _⟩ := h
    cases e
  | k :: ks, [], p :: kvs, h, r => by
    simp only [RepL, List.map_cons] at r
    cases r
  | k :: ks, e :: ds, p :: kvs, h, r => by
    simp only [keysD, List.map_cons, List.cons.injEq] at h
    obtain ⟨k1, ks1, ⟨rfl, rfl⟩, e1, h⟩ := h
    simp only [RepL, List.map_cons, List.cons.injEq] at r
    obtain ⟨u, us, ⟨rfl, rfl⟩, hu, r⟩ := r
    simp only [replD, List.map_cons, RepL]
    refine ⟨_, _, rfl, ?_, repl_rep hd h r⟩
    by_cases z : p.1 = kk
    · rw [if_pos z, if_pos (by rw [e1, z])]
      exact hd
    · rw [if_neg z, if_neg (fun q => z (Option.some.inj (e1.symm.trans q)))]
      exact hu
theorem put_rep {w : Wd} {O : Av} {H : Hp} {ks ds : List D} {kvs : List (Key × V)} {kk : Key} {k d : D} {v : V} (h : keysD ks (kvs.map (·.1))) (r : RepL w O H ds (kvs.map (·.2))) (hk : keyD k = some kk) (hd : Rep w O H d v) :
    keysD (putKs ks kk k) ((putK kvs kk v).map (·.1)) ∧ RepL w O H (putDs ks ds kk d) ((putK kvs kk v).map (·.2)) := by
  have e := keysD_has (kk := kk) h
  unfold putKs putDs putK
  rw [e]
  split
  · refine ⟨?_, repl_rep hd h r⟩
    have : (kvs.map fun kv => if kv.1 = kk then (kv.1, v) else kv).map (·.1) = kvs.map (·.1) := by
      rw [List.map_map]
      refine List.map_congr_left fun p _ => ?_
      simp only [Function.comp]
      split <;> rfl
    rw [this]
    exact h
  · rw [List.map_append, List.map_append]
    refine ⟨keysD_app h hk, ?_⟩
    exact r.append (by simp only [List.map_cons, List.map_nil, RepL]; exact ⟨v, [], rfl, hd, rfl⟩)
theorem keysD_len : ∀ {ks : List D} {kk : List Key}, keysD ks kk → kk.length = ks.length
  | [], kk, h => by
    have h : kk = [] := h
    subst h
    rfl
  | k :: ks, kk, h => by
    obtain ⟨k1, ks1, rfl, e1, h⟩ := h
    simp [keysD_len h]
section
variable {w : Wd} {W : WX} {X : Cx} {x : Str} {p pos : Pos}
end
end PM

/-! one's own list or dict is given away; x, y = e, []; x, y = e, {} -/
namespace PM
open PySem PySem.Spec PyProof.Rows L2
def dataOf : Mu → Option D
  | .lst ds => some (.lst ds)
  | .dct ks ds => some (.dct ks ds)
  | .ins _ _ => none
  | .dkt ks ds => some (.dkt ks ds)
/-- x, x one's own so far: data from then on -/
def mGive (i : Nat) : ME := fun ρ => match ρ[i]? with
  | some (.own m) => (match dataOf m with
    | some d => .ok (d, false) (ρ.set i (.val d))
    | none => .stuck)
  | some (.val d) => .ok (d, false) ρ
  | _ => .stuck
theorem set_same {α : Type} {l : List α} {i : Nat} {x : α} (h : l[i]? = some x) : l.set i x = l := by
  apply List.ext_getElem?
  intro j
  by_cases z : i = j
  · subst z
    rw [List.getElem?_set_self', h]
    rfl
  · rw [List.getElem?_set_ne z]
theorem sim_give {w : Wd} {W : WX} (i : Nat) : Sim w W (tVar i) (mGive i) := fun F O ρ σ H Q hw R hh => by
  subst hw
  unfold mGive at hh
  split at hh
  · rename_i m e
    split at hh
    · rename_i d ed
      obtain ⟨a, e1, e2, e3, e4⟩ := R.slot i _ e
      have is : m.is d := by
        cases m <;> simp only [dataOf] at ed <;> cases ed <;> rfl
      have lt : i < ρ.length := by
        rcases Nat.lt_or_ge i ρ.length with y | y
        · exact y
        · rw [List.getElem?_eq_none y] at e
          cases e
      have ap : Apart (ρ.set i .non) σ a := fun j s q hm z => by
        by_cases y : i = j
        · subst y
          rw [List.getElem?_set_self lt] at q
          cases q
          cases hm
        · rw [List.getElem?_set_ne y] at q
          exact y (R.dist i j _ _ e q rfl hm (e1.trans z.symm))
      have hb : ¬ F.B a := fun q => R.bh a q e3
      have R1 := (R.setN (i := i)).release ap hb
      have r1 : Rep F.w (off O a) H d (.ref a) := (e4.step off_step rfl).rep (fun q => q.2 rfl) is
      have R2 := R1.setV (i := i) r1 (by rw [List.getElem?_set_self lt]; rfl)
      rw [List.set_set, set_same e1] at R2
      exact ⟨_, e1, hh (off O a) H _ off_step R2 r1⟩
    · exact hh.elim
  · rename_i d hd
    obtain ⟨v, e1, h1⟩ := R.slot i _ hd
    exact ⟨v, e1, (hh.go (Step.refl O H) R).val h1⟩
  · exact hh.elim
section
variable {w : Wd} {W : WX} {X : Cx} {x y : Str} {p pos : Pos} {a : Expr} {m : ME}
theorem pm_give (i : Nat) (hN : X.N[i]? = some x := by rfl) (hv : Vis X.env.scope x := by first | exact Or.inl rfl | exact Or.inr (Or.inl rfl) | exact Or.inr (Or.inr rfl)) (hd : (x == ("__debug__" : Str)) = false := by decide)
    (hcd : (x == ("__classdict__" : Str)) = false := by decide) : PM X w W (.Name x pos) (mGive i) := ⟨_, pe_var hN hv hd hcd, sim_give i⟩
end
end PM

/-! tuple(d.items()) -/
namespace PM
open PySem PySem.Spec PyProof.Rows L2
section
variable {X : Cx} {pins : List (Addr × Obj)} {σ : L2.St} {H : Hp} {s : Shared} {d : Addr} {kvs : List (Key × V)}
end
section
variable {prog : Program} {w : World} {A : Around} {E : Value → Shared → Prop} {s : Shared} {r d : Addr} {kvs : List (Key × Value)} {ep : Nat}
end
section
variable {X : Cx} {e : Expr} {te : TE} {p apos cpos pos : Pos} {n : String}
end
end PM

/-! error classes without an own __init__: what the top must have written; {k: v}; items as data -/
namespace PM
open PySem PySem.Spec PyProof.Rows L2
open PySem.W (Frag findIn typeIn subIn keepIn excIn exmOne)
structure Err0 (K : Frag) (c : Addr) (newId : String) (bmB : List Value) : Prop where
  exc : excIn K c bmB newId = true
  keep : keepIn K (.ref c) = true
  sub : subIn K (.ref c) (.type "BaseException") = some true
  ty : typeIn K (.ref c) = some (.type "type")
  me : exmOne K (.ref c) (.ref c) = some true
def err0B (C : Str) (newId : String) (bmB : List Value) : Chk := fun K => excIn K (He.ga K C) bmB newId && (keepIn K (.ref (He.ga K C)) && (obB (subIn K (.ref (He.ga K C)) (.type "BaseException")) (some true) && (decide (typeIn K (.ref (He.ga K C)) = some (.type "type")) && obB (exmOne K (.ref (He.ga K C)) (.ref (He.ga K C))) (some true))))
theorem err0B_ok {K : Frag} {C : Str} {newId : String} {bmB : List Value} (h : err0B C newId bmB K = true) : Err0 K (He.ga K C) newId bmB := by
  obtain ⟨h1, h⟩ := b2' h
  obtain ⟨h2, h⟩ := b2' h
  obtain ⟨h3, h⟩ := b2' h
  obtain ⟨h4, h5⟩ := b2' h
  exact ⟨h1, h2, of_decide_eq_true h3, of_decide_eq_true h4, of_decide_eq_true h5⟩
section
variable {w : Wd} {W : WX} {X : Cx} {c j : Nat} {x m : Str} {p p2 pos pos' apos cpos : Pos} {B newId initId : String} {bmB : List Value} {e k v : Expr} {me mk mv : ME}
theorem pms_raiseE (hK : w.K = X.K) (tk : Takes X W) (F : ExcBaseFacts B newId initId bmB) (q : Err0 w.K (w.cl c) newId bmB) (hg : Gl X x) (gC : X.mg x = some (.ref (w.cl c))) (hc : X.calm = true := by rfl) (hdb : (x == ("__debug__" : Str)) = false := by decide) :
    PMS X w W (.Raise (some (.Call (.Name x p) [.Constant (.str m) j p2] [] pos)) none pos') (mRaise0 c) :=
  pms_raise0 tk F (hK ▸ q.exc) (hK ▸ q.keep) (raises_own (hK ▸ q.sub) (hK ▸ q.ty)) hg gC hc hdb
/-! ### list(d.items()), tuple(d.items()) -/
end
/-! ### {k: v, ..}, keys and values that change nothing -/
def fC (d : D) : En → Option D := fun _ => some d
section
variable {w : Wd} {W : WX} {X : Cx} {x z : Str} {p pos : Pos} {j : Nat}
end
end PM

/-! exceptions as values: made, asked by isinstance, their fields read -/
namespace PM
open PySem PySem.Spec PyProof.Rows L2
open PySem.W (Frag findIn typeIn subIn keepIn excIn exmOne clsIn specialIn takesIn mroIn hasDictIn kitOne)
/-- what is known of a class of errors whose instances are asked -/
structure XcK (K : Frag) (C : Addr) : Prop where
  cl : (clsIn K C).isSome = true
  ga : findIn K (.ref C) "__getattribute__" = some (some (.builtin "BaseException.__getattribute__"))
  gg : findIn K (.ref C) "__getattr__" = some none
  sb : subIn K (.ref C) (.type "BaseException") = some true
  ca : findIn K (.ref C) "__class__" = some (some (.builtin "object.__class__"))
  sp : specialIn K (.builtin "object.__class__") "__get__" = some (some (.builtin "getset_descriptor.__get__"))
  tk : takesIn K (.builtin "object.__class__") = some true
  mr : mroIn K C (.type "object") = some true
  hd : hasDictIn K C = true
section
variable {X : Cx}
end
/-! ### as data -/
section
variable {w : Wd} {W : WX} {X : Cx} {c j : Nat} {x m0 fld : Str} {p p2 pos pos' : Pos} {B newId initId : String} {bmB : List Value} {e : Expr} {m : ME} {te : TE}
end
end PM

/-! a comprehension over a dict: the dict is locked meanwhile -/
namespace PM
open PySem L2
/-- as before, but dicts may be locked or not -/
structure Sw (O : Av) (H H' : Hp) : Prop where
  oth : ∀ a u, ¬ O a → H a = some u → (∀ k, u ≠ .dK k) → (∀ o k, u ≠ .frz o (.dK k)) → H' a = some u
  dk : ∀ a k, ¬ O a → Rd H a (.dK k) → Rd H' a (.dK k)
section
variable {w : Wd} {O : Av} {H H' : Hp}
theorem Sw.at (s : Sw O H H') {a : Addr} {u : HO} (h : At O H a u) (h1 : ∀ k, u ≠ .dK k) (h2 : ∀ o k, u ≠ .frz o (.dK k)) : At O H' a u := ⟨h.1, s.oth a u h.1 h.2 h1 h2⟩
end
section
variable {F : Fr} {O : Av} {ρ : En} {σ : St} {H : Hp} {d : Addr} {kvs : List (Key × V)} {od : Obj}
end
/-! ### either way -/
theorem keysD_len' : ∀ {ks : List D} {kk : List Key}, keysD ks kk → kk.length = ks.length
  | [], kk, h => by
    have h : kk = [] := h
    subst h
    rfl
  | k :: ks, kk, h => by
    obtain ⟨k1, ks1, rfl, e1, h⟩ := h
    simp [keysD_len' h]
section
variable {w : Wd} {W : WX} {X : Cx} {pos spos py pd : Pos} {elt tg : Expr} {ifs : List Expr} {scope : Scope} {own : List (Str × Nat)} {g : MG} {js : List Nat} {mt : MT} {me : ME} {x : Str}
end
end PM

/-! repr of data in which dicts stand -/
namespace PM
open PySem PySem.Spec PyProof.Rows L2
def keyPys : List D → Option (List PyData)
  | [] => some []
  | .int i :: r => (keyPys r).map (.int i :: ·)
  | .str x :: r => (keyPys r).map (.str x :: ·)
  | _ => none
mutual
def pyX : D → Option PyData
  | .non => some .none
  | .bl b => some (.bool b)
  | .int i => some (.int i)
  | .str x => some (.str x)
  | .tup ds => (pyXs ds).map .tuple
  | .lst ds => (pyXs ds).map .list
  | .dct ks ds => (pyXs ds).bind fun ps => (keyPys ks).map fun qs => .dict (qs.zip ps)
  | .obj _ _ => none
  | .scr _ => none
  | .cls _ => none
  | .exn _ _ _ => none
  | .set _ => none
  | .dkf _ _ => none
  | .dkt _ _ => none
def pyXs : List D → Option (List PyData)
  | [] => some []
  | d :: ds => (pyX d).bind fun p => (pyXs ds).map (p :: ·)
end
section
variable {X : Cx} {pins : List (Addr × Obj)} {σ : L2.St} {H : Hp} {s : Shared} {w : Wd} {O : Av}
theorem not_sys (I : Inv X pins σ H s) (hs : (X.K.lookup sysModules).isSome = true) {a : Addr} {o : HO} (h : H a = some o) : a ≠ sysModules := fun z => by
  obtain ⟨ob, e⟩ := Option.isSome_iff_exists.mp hs
  have := (I.bs _ _ (I.ok.mod.kin _ _ e)).2
  rw [z, this] at h
  cases h
theorem reads_keys : ∀ {ks : List D} {kk : List Key} {qs : List PyData} {es : List DictEntry} {vs : List (Key × Value)} {h : Heap}, keysD ks kk → keyPys ks = some qs → vs.map (·.1) = kk → Pairs (mixKind X.prog X.w) es vs → ReadsAll h (es.map (·.key)) qs []
  | [], kk, qs, es, vs, h, hk, hq, hv, hp => by
    cases hq
    have hk : kk = [] := hk
    rw [hk] at hv
    have : vs = [] := List.map_eq_nil_iff.mp hv
    subst this
    cases hp
    exact .nil
  | k :: ks, kk, qs, es, vs, h, hk, hq, hv, hp => by
    obtain ⟨k1, ks1, rfl, e1, hk⟩ := hk
    cases hp with
    | nil => cases hv
    | cons h1 h2 h3 =>
      rename_i e kv es kvs
      simp only [List.map_cons, List.cons.injEq] at hv
      obtain ⟨hv1, hv2⟩ := hv
      have rk : RelV (kV kv.1) e.key := relV_key (show keyIs kv.1 e.key = true from h1)
      rw [hv1] at rk
      cases k with
      | int i =>
        cases e1
        simp only [keyPys] at hq
        cases q : keyPys ks with
        | none => rw [q] at hq; cases hq
        | some qs' =>
          rw [q] at hq
          cases hq
          obtain ⟨t, ek⟩ : ∃ t, e.key = .int i t := rk
          have := ReadsAll.cons (Reads.int i t) (reads_keys (h := h) hk q hv2 h3)
          rw [List.map_cons, ek]
          exact this
      | str x =>
        cases e1
        simp only [keyPys] at hq
        cases q : keyPys ks with
        | none => rw [q] at hq; cases hq
        | some qs' =>
          rw [q] at hq
          cases hq
          obtain ⟨t, ek⟩ : ∃ t, e.key = .str x t := rk
          have := ReadsAll.cons (Reads.str x t) (reads_keys (h := h) hk q hv2 h3)
          rw [List.map_cons, ek]
          exact this
      | _ => cases e1
theorem keyPys_len : ∀ {ks : List D} {qs : List PyData}, keyPys ks = some qs → qs.length = ks.length
  | [], qs, h => by cases h; rfl
  | .int i :: ks, qs, h => by
    simp only [keyPys] at h
    cases q : keyPys ks with
    | none => rw [q] at h; cases h
    | some r => rw [q] at h; cases h; simp [keyPys_len q]
  | .str i :: ks, qs, h => by
    simp only [keyPys] at h
    cases q : keyPys ks with
    | none => rw [q] at h; cases h
    | some r => rw [q] at h; cases h; simp [keyPys_len q]
  | .non :: ks, qs, h => by cases h
  | .bl _ :: ks, qs, h => by cases h
  | .tup _ :: ks, qs, h => by cases h
  | .lst _ :: ks, qs, h => by cases h
  | .dct _ _ :: ks, qs, h => by cases h
  | .obj _ _ :: ks, qs, h => by cases h
  | .scr _ :: ks, qs, h => by cases h
  | .cls _ :: ks, qs, h => by cases h
  | .exn _ _ _ :: ks, qs, h => by cases h
  | .set _ :: ks, qs, h => by cases h
  | .dkf _ _ :: ks, qs, h => by cases h
  | .dkt _ _ :: ks, qs, h => by cases h
theorem pyXs_len : ∀ {ds : List D} {ps : List PyData}, pyXs ds = some ps → ps.length = ds.length
  | [], ps, h => by simp only [pyXs] at h; cases h; rfl
  | d :: ds, ps, h => by
    simp only [pyXs] at h
    cases q : pyX d with
    | none => rw [q] at h; cases h
    | some p =>
      rw [q] at h
      simp only [Option.bind_some] at h
      cases q2 : pyXs ds with
      | none => rw [q2] at h; cases h
      | some r => rw [q2] at h; cases h; simp [pyXs_len q2]
theorem kv_vals : ∀ {kvs : List (Key × V)} {vs : List (Key × Value)}, KV kvs vs → kvs.map (·.1) = vs.map (·.1) ∧ Vals (kvs.map (·.2)) (vs.map (·.2))
  | _, _, .nil => ⟨rfl, .nil⟩
  | _, _, .cons h t => by
    obtain ⟨h1, h2⟩ := kv_vals t
    exact ⟨by simp [h.1, h1], .cons h.2 h2⟩
theorem pairs_vals {es : List DictEntry} {vs : List (Key × Value)} (h : Pairs (mixKind X.prog X.w) es vs) : es.map (·.val) = vs.map (·.2) := by
  induction h with
  | nil => rfl
  | cons h1 h2 h3 ih => simp [h2, ih]
mutual
theorem reads_rep (I : Inv X pins σ H s) (hs : (X.K.lookup sysModules).isSome = true) (hK : w.K = X.K) : ∀ (d : D) (v : V) (p : PyData) (u : Value), Rep w O H d v → pyX d = some p → RelV v u → ∃ as, Reads s.heap u p as ∧ sysModules ∉ as
  | .non, v, p, u, h, e, r => by
    simp only [Rep] at h
    simp only [pyX] at e
    cases e; subst h; cases r
    exact ⟨_, Reads.none, by simp⟩
  | .bl b, v, p, u, h, e, r => by
    simp only [Rep] at h
    simp only [pyX] at e
    cases e; subst h; cases r
    exact ⟨_, Reads.bool b, by simp⟩
  | .int b, v, p, u, h, e, r => by
    simp only [Rep] at h
    simp only [pyX] at e
    cases e; subst h
    obtain ⟨t, rfl⟩ := r
    exact ⟨_, Reads.int b t, by simp⟩
  | .str b, v, p, u, h, e, r => by
    simp only [Rep] at h
    simp only [pyX] at e
    cases e; subst h
    obtain ⟨t, rfl⟩ := r
    exact ⟨_, Reads.str b t, by simp⟩
  | .tup ds, v, p, u, h, e, r => by
    simp only [Rep] at h
    simp only [pyX] at e
    obtain ⟨a, vs, rfl, h1, h2⟩ := h
    cases q : pyXs ds with
    | none => rw [q] at e; cases e
    | some ps =>
      rw [q] at e
      cases e
      cases r
      obtain ⟨its, rv, ⟨o, ho, hc, n, hd⟩, _⟩ := I.tuple (hK ▸ sq_of_rep h1)
      obtain ⟨as, hr, hn⟩ := reads_reps I hs hK ds vs ps its h2 q rv
      exact ⟨_, Reads.tuple ho hc hd hr, hn⟩
  | .lst ds, v, p, u, h, e, r => by
    simp only [Rep] at h
    simp only [pyX] at e
    obtain ⟨a, vs, rfl, h1, h2⟩ := h
    cases q : pyXs ds with
    | none => rw [q] at e; cases e
    | some ps =>
      rw [q] at e
      cases e
      cases r
      obtain ⟨its, rv, ⟨o, n, ho, hc, _, hd⟩, _⟩ := I.list (by rw [← hK]; exact sl_of_rep h1)
      obtain ⟨as, hr, hn⟩ := reads_reps I hs hK ds vs ps its h2 q rv
      refine ⟨_, Reads.list ho hc hd hr, fun z => ?_⟩
      rcases List.mem_cons.mp z with z | z
      · exact not_sys I hs h1.2 z.symm
      · exact hn z
  | .dct ks ds, v, p, u, h, e, r => by
    simp only [Rep] at h
    simp only [pyX] at e
    obtain ⟨a, kvs, rfl, h1, hk, h2⟩ := h
    cases q : pyXs ds with
    | none => rw [q] at e; cases e
    | some ps =>
      rw [q] at e
      simp only [Option.bind_some] at e
      cases q2 : keyPys ks with
      | none => rw [q2] at e; cases e
      | some qs =>
        rw [q2] at e
        cases e
        cases r
        have x : ObjOk X.prog X.w H s.heap a (.dK kvs) := h1.elim (fun q => I.hok a _ q.2) (fun ⟨o, q⟩ => (I.hok a _ q.2).2)
        obtain ⟨_, sy, vs, kv, o, es, ep, ho, hx, hd, _, hp, _⟩ := x
        obtain ⟨k1, k2⟩ := kv_vals kv
        obtain ⟨bs, hr, hn⟩ := reads_reps I hs hK ds (kvs.map (·.2)) ps (vs.map (·.2)) h2 q k2
        have rk := reads_keys (X := X) (h := s.heap) hk q2 k1.symm hp
        have l1 := keyPys_len q2
        have l2 := pyXs_len q
        have l3 := keysD_len' hk
        have l4 := h2.length
        rw [List.length_map] at l3 l4
        have z1 : (qs.zip ps).map (·.1) = qs := List.map_fst_zip (by omega)
        have z2 : (qs.zip ps).map (·.2) = ps := List.map_snd_zip (by omega)
        refine ⟨_, Reads.dict (kvs := qs.zip ps) (as := []) (bs := bs) ho hx.1 hd (by rw [z1]; exact rk) (by rw [z2, pairs_vals hp]; exact hr), fun z => ?_⟩
        rcases List.mem_cons.mp (show sysModules ∈ a :: bs from z) with z | z
        · exact (beq_eq_false_iff_ne.mp sy) z.symm
        · exact hn z
  | .obj _ _, v, p, u, h, e, r => by simp only [pyX] at e; cases e
  | .scr _, v, p, u, h, e, r => by simp only [pyX] at e; cases e
  | .cls _, v, p, u, h, e, r => by simp only [pyX] at e; cases e
  | .exn _ _ _, v, p, u, h, e, r => by simp only [pyX] at e; cases e
  | .set _, v, p, u, h, e, r => by simp only [pyX] at e; cases e
  | .dkf _ _, v, p, u, h, e, r => by simp only [pyX] at e; cases e
  | .dkt _ _, v, p, u, h, e, r => by simp only [pyX] at e; cases e
theorem reads_reps (I : Inv X pins σ H s) (hs : (X.K.lookup sysModules).isSome = true) (hK : w.K = X.K) : ∀ (ds : List D) (vs : List V) (ps : List PyData) (us : List Value), RepL w O H ds vs → pyXs ds = some ps → Vals vs us → ∃ as, ReadsAll s.heap us ps as ∧ sysModules ∉ as
  | [], vs, ps, us, h, e, r => by
    simp only [RepL] at h
    simp only [pyXs] at e
    cases e; subst h; cases r
    exact ⟨_, ReadsAll.nil, by simp⟩
  | d :: ds, vs, ps, us, h, e, r => by
    simp only [RepL] at h
    simp only [pyXs] at e
    obtain ⟨v, vs', rfl, h1, h2⟩ := h
    cases q : pyX d with
    | none => rw [q] at e; cases e
    | some p =>
      rw [q] at e
      simp only [Option.bind_some] at e
      cases q2 : pyXs ds with
      | none => rw [q2] at e; cases e
      | some ps' =>
        rw [q2] at e
        cases e
        cases r with
        | cons r1 r2 =>
          obtain ⟨as, x1, y1⟩ := reads_rep I hs hK d v p _ h1 q r1
          obtain ⟨bs, x2, y2⟩ := reads_reps I hs hK ds vs' ps' _ h2 q2 r2
          exact ⟨_, ReadsAll.cons x1 x2, fun z => (List.mem_append.mp z).elim y1 y2⟩
end
end
def reprX (x : D) : Option Vl := (pyX x).bind fun p => if p.showable = true ∧ p.depth < 64 ∧ p.shown.length ≤ sizeLine then some (dS p.shown) else none
def rReprX (K : PySem.W.Frag) : List V → Hp → VK → Prop := fun xs H Q => ∃ (w : Wd) (O : Av) (d : D) (p : PyData) (v : V), w.K = K ∧ xs = [v] ∧ Rep w O H d v ∧ pyX d = some p ∧ p.showable = true ∧ p.depth < 64 ∧ p.shown.length ≤ sizeLine ∧ Q (.str p.shown) H
theorem call_reprX {X : Cx} (hs : (X.K.lookup sysModules).isSome = true) (hgu : X.A.guards = some []) (hu : X.A.units + 64 < cLine) : CallR X (.builtin "repr") (rReprX X.K) := by
  intro pins s σ H xs us Q I r h
  obtain ⟨w, O, d, p, v, hK, rfl, hd, hp, h1, h2, h3, q⟩ := h
  obtain ⟨u, rfl, ru⟩ := vals1 r
  obtain ⟨as, rd, ns⟩ := reads_rep I hs hK d v p u hd hp ru
  have fin : ∀ (h' : Heap) (u : Tok) (tk : Nat), (∀ b o, s.heap.get? b = some o → h'.get? b = some o) → EP X pins σ Q (.str p.shown u) { s with heap := h', toks := tk } := fun h' u tk hk => ⟨.str _, H, I.kept hk, ⟨_, rfl⟩, q⟩
  cases rd with
  | none => exact PySem.P.repr_of_none (by simpa only [PyData.shown] using fin s.heap s.toks (s.toks + 1) fun _ _ e => e)
  | bool b => exact PySem.P.repr_of_bool (by simpa only [PyData.shown] using fin s.heap s.toks (s.toks + 1) fun _ _ e => e)
  | int i t => exact PySem.P.repr_of_int (by simpa [PyData.showable] using h1) (by simpa only [PyData.shown] using fin s.heap s.toks (s.toks + 1) fun _ _ e => e)
  | str z t => exact PySem.P.repr_of_str (by simpa only [PyData.shown] using fin s.heap s.toks (s.toks + 1) fun _ _ e => e) (by simpa only [PyData.shown] using h3)
  | list a1 a2 a3 a4 => exact repr_of_reads' (.list a1 a2 a3 a4) h1 (fun _ => ns) hgu (by omega) (fun _ _ e => e) fin h3
  | tuple a1 a2 a3 a4 => exact repr_of_reads' (.tuple a1 a2 a3 a4) h1 (fun _ => ns) hgu (by omega) (fun _ _ e => e) fin h3
  | dict a1 a2 a3 a4 a5 => exact repr_of_reads' (.dict a1 a2 a3 a4 a5) h1 (fun _ => ns) hgu (by omega) (fun _ _ e => e) fin h3
section
variable {w : Wd} {W : WX} {X : Cx} {pos p : Pos} {mr : MA} {e : Expr}
theorem pm_reprX {k : Nat} (hK : w.K = X.K) (hs : (w.K.lookup sysModules).isSome = true) (hgu : X.A.guards = some []) (hr : Room k X.A) (hg : Gl X "repr") (hm : X.mg "repr" = none) (ha : PMA X w W [e] mr) (he : starEach [e] X.env = (false, eval e X.env) :: starEach [] X.env := by rfl) : PM X w W (.Call (.Name "repr" p) [e] [] pos) (mCall (one1 reprX) mr) :=
  pm_callB (call_reprX (hK ▸ hs) hgu hr.units) (fun O H xs z vs Q dm e rs k => by
    obtain ⟨x, rfl, ez⟩ := one1_some e
    clear e
    obtain ⟨v, rfl, hv⟩ := repl1 rs
    unfold reprX at ez
    cases q : pyX x with
    | none => rw [q] at ez; cases ez
    | some py =>
      rw [q] at ez
      simp only [Option.bind_some] at ez
      split at ez
      · rename_i h
        cases ez
        exact ⟨w, O, x, py, v, hK, rfl, hv, q, h.1, h.2.1, h.2.2, k.str⟩
      · cases ez) hg hm (by decide +kernel) ha (by decide) (by decide) he
end
end PM

/-! try whose clauses know that the exception has no context; raise there; x, y, z = a, b, c -/
namespace PM
open PySem PySem.Spec PyProof.Rows L2
inductive HdM (X : Cx) (n : Str) : List ExceptHandler → List Cl → Prop
  | nil : HdM X n [] []
  | cons {x : Str} {q : Cl} {st : Stmt} {su : List Stmt} {np ps : Pos} {hs : List ExceptHandler} {l : List Cl} (nm : Names X x q.1)
      (ok : ∀ (a : Addr) (oe : Obj) (cls : Value) (d : Option Addr) (pn : List (Addr × Obj)), L2N.Zn cls d oe → (∃ vs, oe.data = .fields vs) → PSs (X.suite a ((a, oe) :: pn)) (st :: su) (q.2 a cls d)) (r : HdM X n hs l) :
      HdM X n (.ExceptHandler (some (.Name x np)) (some n) (st :: su) ps :: hs) (q :: l)
section
variable {X : Cx} {n : Str} {i : Nat} {body : List Stmt} {hd : ExceptHandler} {hs : List ExceptHandler} {l : List Cl} {pos : Pos} {tb : WX → TS}
end

section
open Builtin Builtin.ObjectAttr
variable {X : Cx} {C : Addr} {fld x : Str} {e : Expr} {te : TE} {p pos : Pos}
end
section
variable {w : Wd} {W : WX} {X : Cx} {c j : Nat} {x m0 fld : Str} {p p2 pos pos' : Pos} {B newId initId : String} {bmB : List Value} {e : Expr} {m : ME}
end
/-! ### x, y, z = a, b, c -/
end PM

/-! a def called with the exception that is handled -/
namespace PM
open PySem PySem.Spec PyProof.Rows L2 L2H HotX
/-- the same, with the exception at a under the number 99 -/
abbrev Wd.pin (w : Wd) (a : Addr) : Wd := ⟨w.K, fun n => if n = 99 then a else w.cl n, w.wo, w.T⟩
/-- f(e), e the exception that is handled, of class D: the text z -/
structure FnE (P : Program) (wo : World) (K : PySem.W.Frag) (mg : Str → Option Value) (base : Heap) (k : Nat) (f : Addr) (fd : FuncData) (v : Str) (D : Addr) (z : Str) : Prop where
  run : ∀ (A : Around) (outer : List Env) (s : Shared) (H : Hp) (args : Args) (Q : VK) (E : XK) (p : Addr × Obj), RoomH k A → Hot1 A p → PinOk outer H s p → Zc (.ref D) none p.2 → Env0 P wo K mg base A outer s H → BindsTo s fd args [(v, .ref p.1)] → (∀ H', Grow H H' → Q (.str z) H') →
    codeAny (model P wo) A (.call (.ref f) args) (CR CX0 outer P wo H s Q E) s
section
variable {P : Program} {wo : World} {K : PySem.W.Frag} {mg : Str → Option Value} {base : Heap} {w : Wd} {x qual v z : Str} {st : Stmt} {f D : Addr} {fd : FuncData} {N : List Str} {k : Nat} {m : MS}
end
section
variable {X : Cx} {k i : Nat} {f D a : Addr} {oe : Obj} {pn : List (Addr × Obj)} {fd : FuncData} {v x n z : Str} {q r pos : Pos}
end
end PM

/-! try: .. / except A as e: return z0 + f(e) / except B as e: return z1 + repr(e.f1) / except C as e: return z2 + repr(e.f2) -/
namespace PM
open PySem PySem.Spec PyProof.Rows L2 L2H HotX
open PySem.W (exmOne findIn)
/-- one reading of statements for a meaning -/
def tsOf (w : Wd) (W : WX) (m : MS) : TS := fun E σ H => ∃ (F : Fr) (O : Av) (ρ : En), F.w = w ∧ Rel F O ρ σ H ∧ HoldS F W O H E (m ρ)
theorem PMSs.ps {X : Cx} {w : Wd} {W : WX} {b : List Stmt} {m : MS} (h : PMSs X w W b m) : PSs X b (tsOf w W m) := by
  obtain ⟨t, p, s⟩ := h
  exact ⟨fun pins s0 σ H D I ⟨F, O, ρ, hw, R, hh⟩ => p.run pins s0 σ H D I (s F O ρ σ H D hw R hh)⟩
def repTxt (z : Str) (d : D) : Option Str := match reprX d with
  | some (.str s, false) => if z.length + s.length ≤ sizeLine then some (z ++ s) else none
  | _ => none
section
variable {X : Cx} {i k : Nat} {C a f0 : Addr} {oe : Obj} {cls : Value} {d : Option Addr} {pn : List (Addr × Obj)} {f z z0 zz n x v : Str} {fd : FuncData} {q0 q1 q2 q3 q4 q5 q6 q7 : Pos} {j : Nat}
end
section
variable {w : Wd} {X : Cx} {i k c0 c1 c2 : Nat} {CS f0 : Addr} {fd : FuncData} {n x v z0 zz f1 z1 f2 z2 x0 x1 x2 : Str} {body : List Stmt} {mb : MS} {j0 j1 j2 : Nat}
  {a0 a1 a2 a3 a4 a5 a6 a7 b0 b1 b2 b3 b4 b5 b6 b7 b8 d0 d1 d2 d3 d4 d5 d6 d7 d8 pl : Pos}
end
end PM

/-! tables of classes of errors; KeyError as a base -/
namespace PM
open PySem PySem.Spec PyProof.Rows L2
open PySem.W (Frag findIn typeIn subIn keepIn excIn exmOne kitOne)
def sysB : Chk := fun K => (K.lookup sysModules).isSome
end PM
namespace PM
open PySem PySem.Spec PyProof.Rows L2
theorem newF_of {B newId i : String} {bmB : List Value} (F : ExcBaseFacts B newId i bmB) : ∃ (B0 init0 : String) (bm0 : List Value), ExcBaseFacts B0 newId init0 bm0 ∧ LineF B0 bmB := ⟨B, i, bmB, F, F.hasB, F.noAttr, F.noName⟩
end PM

/-! a text once or not at all; an int as a key or value of a display -/
namespace PM
open PySem PySem.Spec PyProof.Rows L2
section
variable {w : Wd} {W : WX} {X : Cx} {pos p : Pos} {a b e : Expr} {ma mb : ME} {mr : MA}
end
end PM

/-! whole numbers in {k: v}; a place in a table -/
namespace PM
open PySem PySem.Spec PyProof.Rows L2
end PM

/-! PMHook: as hookM, but what is seen of the heap is found with a mask of bits, and laid out once. -/
namespace PM
open PySem PySem.Spec PyProof.Rows L2
open HandSHeadRun (frNat frNat_eq)
/-- those not seen yet, put ahead of the new ones -/
def visB {α : Type} : List Addr → List Addr → Nat → (List Addr → Nat → α) → α
  | [], acc, m, k => k acc m
  | a :: r, acc, m, k => frNat a fun a => match Nat.beq (Nat.mod (Nat.shiftRight m a) 2) 0 with
    | true => frNat (Nat.lor m (Nat.shiftLeft 1 a)) fun m => visB r (a :: acc) m k
    | false => visB r acc m k
def levB {α : Type} (g : Addr → Option Obj) : List Addr → List Addr → Nat → (List Addr → Nat → α) → α
  | [], acc, m, k => k acc m
  | a :: r, acc, m, k => match g a with
    | some o => visB (He.refsD o) acc m fun acc m => levB g r acc m k
    | none => levB g r acc m k
def bfsB (g : Addr → Option Obj) : Nat → List Addr → List Addr → Nat → List Addr
  | 0, _, all, _ => all
  | n + 1, fr, all, m => levB g fr [] m fun new m => bfsB g n new (all ++ new) m
def asBf (g : Addr → Option Obj) (n : Nat) : List Addr := visB [mainGlobals, cStatics] [] 0 fun acc m => bfsB g n acc acc m
/-- laid out -/
def forceK {α : Type} : List (Addr × Obj) → (List (Addr × Obj) → α) → α
  | [], k => k []
  | (a, o) :: r, k => forceK r fun r' => k ((a, o) :: r')
theorem forceK_eq {α : Type} : ∀ (l : List (Addr × Obj)) (k : List (Addr × Obj) → α), forceK l k = k l
  | [], k => rfl
  | (a, o) :: r, k => by
    show forceK r (fun r' => k ((a, o) :: r')) = _
    rw [forceK_eq r]
end PM

/-! a def that may raise, called where it raises nothing -/
namespace PM
open PySem PySem.Spec PyProof.Rows L2
section
variable {P : Program} {wo : World} {K : PySem.W.Frag} {mg : Str → Option Value} {base : Heap} {w : Wd} {n j : Nat} {f : Fn}
end
end PM

/-! defs below which tables of code objects grow -/
namespace PM
open PySem PySem.Spec PyProof.Rows L2
/-- with tables -/
abbrev Wd.wT (w : Wd) (T : List (Addr × Str)) : Wd := ⟨w.K, w.cl, w.wo, T⟩
section
variable {w : Wd} {T : List (Addr × Str)} {O : Av} {H : Hp}
mutual
theorem rep_T : ∀ (d : D) (v : V), Rep (w.wT T) O H d v ↔ Rep w O H d v
  | .non, v => by simp only [Rep]
  | .bl _, v => by simp only [Rep]
  | .int _, v => by simp only [Rep]
  | .str _, v => by simp only [Rep]
  | .cls _, v => by simp only [Rep]
  | .tup ds, v => by simp only [Rep, repL_T ds]
  | .lst ds, v => by simp only [Rep, repL_T ds]
  | .dct ks ds, v => by simp only [Rep, repL_T ds]
  | .obj c fs, v => by simp only [Rep, repL_T fs]
  | .scr ds, v => by simp only [Rep, repL_T ds]
  | .exn c ns ds, v => by simp only [Rep, repL_T ds]
  | .dkt ks ds, v => by simp only [Rep, repL_T ks, repL_T ds]
  | .set xs, v => by simp only [Rep]
  | .dkf ks ds, v => by simp only [Rep, repL_T ks, repL_T ds]
theorem repL_T : ∀ (ds : List D) (vs : List V), RepL (w.wT T) O H ds vs ↔ RepL w O H ds vs
  | [], vs => by simp only [RepL]
  | d :: ds, vs => by simp only [RepL, rep_T d, repL_T ds]
end
theorem repO_T : ∀ (ds : List (Option D)) (vs : List (Option V)), RepO (w.wT T) O H ds vs ↔ RepO w O H ds vs
  | [], vs => by simp only [RepO]
  | none :: ds, vs => by simp only [RepO, repO_T ds]
  | some d :: ds, vs => by simp only [RepO, rep_T d, repO_T ds]
theorem muAt_T {a : Addr} : ∀ (m : Mu), MuAt (w.wT T) O H a m ↔ MuAt w O H a m
  | .lst ds => by simp only [MuAt, repL_T]
  | .dct ks ds => by simp only [MuAt, repL_T]
  | .ins c fs => by simp only [MuAt, repO_T]
  | .dkt ks ds => by simp only [MuAt, repL_T]
theorem xcAt_T {cls : Value} {d : Option Addr} : ∀ (x : Xc), XcAt (w.wT T) O H cls d x ↔ XcAt w O H cls d x
  | .own c [] => Iff.rfl
  | .own c (f :: fs) => by simp only [XcAt, repL_T]
  | .ty n => Iff.rfl
theorem argAt_T {om : Option Mu} {ds : List D} {vs : List V} : ArgAt (w.wT T) O H om ds vs ↔ ArgAt w O H om ds vs := by
  cases om <;> simp only [ArgAt, repL_T, muAt_T]
theorem ioAt_T {om : Option Mu} {vs : List V} : IoAt (w.wT T) O H om vs ↔ IoAt w O H om vs := by
  cases om <;> simp only [IoAt, muAt_T]
theorem retF_T {om : Option Mu} {vs : List V} {H' : Hp} {v : V} {x : Vl} : RetF (w.wT T) O H om vs H' v x ↔ RetF w O H om vs H' v x := by
  obtain ⟨d, b⟩ := x
  cases b <;> simp only [RetF, rep_T, muAt_T, ioAt_T]
theorem holdF_T {om : Option Mu} {vs : List V} {Q : VK} {E : XK} {r : Fs} : HoldF (w.wT T) O H om vs Q E r ↔ HoldF w O H om vs Q E r := by
  cases r <;> simp only [HoldF, retF_T, ioAt_T, xcAt_T]
end
theorem spOf_T {w : Wd} {T : List (Addr × Str)} {k : Nat} {f : Fn} : spOf (w.wT T) k f = spOf w k f := by
  funext vs H Q E
  exact propext (by simp only [spOf, argAt_T, holdF_T])
theorem spIn_T {w : Wd} {T : List (Addr × Str)} {c k : Nat} {f : Fn} : spIn (w.wT T) c k f = spIn w c k f := by
  funext vs H Q E
  exact propext (by simp only [spIn, spOf_T])
section
variable {P : Program} {wo : World} {K : PySem.W.Frag} {mg : Str → Option Value} {base : Heap} {w : Wd} {x : Str} {n j : Nat} {f : Fn} {g : Bool}
theorem DefOk.wT (h : DefOk g P wo K mg base w x n j f) (T : List (Addr × Str)) : DefOk g P wo K mg base (w.wT T) x n j f := by
  unfold DefOk at h ⊢
  rw [spOf_T]
  exact h
theorem DefX.wT (h : DefX P wo K mg base w x n j f) (T : List (Addr × Str)) : DefX P wo K mg base (w.wT T) x n j f := by
  unfold DefX at h ⊢
  rw [spOf_T]
  exact h
theorem MthOk.wT {a : Addr} (h : MthOk P wo K mg base w a n j f) (T : List (Addr × Str)) : MthOk P wo K mg base (w.wT T) a n j f := by
  unfold MthOk at h ⊢
  rw [spOf_T]
  exact h
theorem MthX.wT {a : Addr} (h : MthX P wo K mg base w a n j f) (T : List (Addr × Str)) : MthX P wo K mg base (w.wT T) a n j f := by
  unfold MthX at h ⊢
  rw [spOf_T]
  exact h
theorem MethOk.wT {c : Nat} {a : Addr} (h : MethOk w c x a) (T : List (Addr × Str)) : MethOk (w.wT T) c x a := ⟨h.sc, h.mt⟩
end
/-! ### the promise of a def below which tables grow -/
structure StayT (T : List (Addr × Str)) (O : Av) (om : Option Mu) (vs : List V) (H H' : Hp) : Prop where
  kept : ∀ a o, ¬ IoB om vs a → (∀ p ∈ T, p.1 ≠ a) → H a = some o → H' a = some o
  dom : ∀ a, H a ≠ none → H' a ≠ none
  tab : ∀ p ∈ T, TabZ O H' p.1 p.2
def RetT (w : Wd) (O : Av) (H : Hp) (om' : Option Mu) (vs : List V) (H' : Hp) (v : V) (x : Vl) : Prop := match x.2 with
  | false => Rep w O H' x.1 v ∧ IoAt w O H' om' vs
  | true => ∃ a m, v = .ref a ∧ H a = none ∧ m.is x.1 ∧ MuAt w (ins O a) H' a m ∧ IoAt w (ins O a) H' om' vs ∧ ∀ p ∈ w.T, TabZ (ins O a) H' p.1 p.2
def HoldT (w : Wd) (O : Av) (H : Hp) (om : Option Mu) (vs : List V) (Q : VK) (E : XK) : Fs → Prop
  | .ret x om' => om'.isSome = om.isSome ∧ ∀ H' v, StayT w.T O om vs H H' → RetT w O H om' vs H' v x → Q v H'
  | .exc x om' => om'.isSome = om.isSome ∧ ∀ H' cls d, StayT w.T O om vs H H' → IoAt w O H' om' vs → XcAt w O H' cls d x → E cls d H'
  | .stuck => False
def spT (w : Wd) (k : Nat) (f : Fn) : Sp := fun vs H Q E => ∃ (O : Av) (om : Option Mu) (ds : List D), Dm O H ∧ vs.length = k ∧ (∀ p ∈ w.T, O p.1 ∧ TabZ O H p.1 p.2) ∧ ArgAt w O H om ds vs ∧ HoldT w O H om vs Q E (f om ds)
section
variable {w : Wd} {N : List Str} {vs : List V} {H : Hp} {O : Av} {om : Option Mu} {ds : List D}
/-- what a T-def may change of what it was handed -/
abbrev IoT (w : Wd) (om : Option Mu) (vs : List V) : Nat → Av := fun i a => (i = 0 ∧ IoB om vs a) ∨ (i = tI ∧ ∃ p ∈ w.T, p.1 = a)
theorem rel_startT (dm : Dm O H) (hn : vs.length ≤ N.length) (ht : ∀ p ∈ w.T, O p.1 ∧ TabZ O H p.1 p.2) (h : ArgAt w O H om ds vs) : Rel ⟨w, O, IoT w om vs, H⟩ O (en0 N.length om ds) (start N vs) H := by
  refine ⟨?_, fun _ q => q, fun a q => dm a q, fun i a q => ?_, dm, fun _ q => q, fun a o q _ => q, fun i s e => ?_, fun i j s t e1 e2 m1 m2 q => ?_, fun p hp => ⟨.inr ⟨rfl, p, hp, rfl⟩, (ht p hp).2⟩⟩
  · rw [start_len hn]
    unfold en0
    have := pre_len h
    simp
    omega
  · rcases q with q | ⟨_, p, hp, rfl⟩
    · cases om with
      | none => exact absurd q.2.1 (by simp)
      | some m =>
        obtain ⟨b, vs', rfl, hb, _⟩ := h
        have z := q.2.2
        simp at z
        show O a
        rw [← z]
        exact hb
    · exact (ht p hp).1
  · rcases en0_get h e with rfl | ⟨v, e1, ⟨d, rfl, hd⟩ | ⟨m, a, rfl, rfl, rfl, rfl, ha, hm⟩⟩
    · trivial
    · exact ⟨v, start_get e1, hd⟩
    · refine ⟨a, start_get e1, .inl ⟨rfl, rfl, ?_⟩, hm⟩
      cases vs with
      | nil => simp at e1
      | cons b r => simpa using e1
  · have k : ∀ {i : Nat} {s : Sl}, (en0 N.length om ds)[i]? = some s → s.mu = true → i = 0 := fun {i s} e m => by
      rcases en0_get h e with rfl | ⟨v, e1, ⟨d, rfl, hd⟩ | ⟨m, a, rfl, rfl, rfl, rfl, ha, hm⟩⟩
      · cases m
      · cases m
      · rfl
    rw [k e1 m1, k e2 m2]
theorem io_endT {O' : Av} {ρ' : En} {σ' : L2.St} {H' : Hp} {om' : Option Mu} (R : Rel ⟨w, O, IoT w om vs, H⟩ O' ρ' σ' H') (e : ioOf om ρ' = some om') : om'.isSome = om.isSome ∧ ∀ O1 : Av, (∀ a, O1 a → O' a) → IoAt w O1 H' om' vs := by
  cases om with
  | none =>
    cases e
    exact ⟨rfl, fun _ _ => trivial⟩
  | some m =>
    unfold ioOf at e
    simp only at e
    split at e
    · rename_i m' q
      cases e
      obtain ⟨a, e1, e2, e3⟩ := R.slot 0 _ q
      refine ⟨rfl, fun O1 h => ⟨a, ?_, e3.step (mono_step h) rfl⟩⟩
      rcases e2 with e2 | e2
      · exact e2.2.2
      · exact absurd e2.1 (by decide)
    · cases e
theorem tabZ_mono {O O' : Av} {P : Addr} {q : Str} (h : ∀ a, O a → O' a) (t : TabZ O' H P q) : TabZ O H P q := t.step (mono_step h) rfl
theorem stay_endT {O' : Av} {ρ' : En} {σ' : L2.St} {H' : Hp} (R : Rel ⟨w, O, IoT w om vs, H⟩ O' ρ' σ' H') : StayT w.T O om vs H H' :=
  ⟨fun a o n n2 e => R.keep a o e fun i q => q.elim (fun q => n q.2) fun ⟨_, p, hp, z⟩ => n2 p hp z, fun a e => R.doh a e, fun p hp => tabZ_mono R.b0 (R.tab p hp).2⟩
theorem body_okT {W : WX} {ts : TS} {m : MS} {k : Nat} {Q : VK} {E : XK} (hs : SimS w W ts m) (hW : ∀ cls d σ H, E cls d H → W cls d σ H) (hk : k ≤ N.length) (h : spT w k (fnSem N.length k m) vs H Q E) : ts { nx := fun _ H' => Q .non H', rt := Q } (start N vs) H := by
  obtain ⟨O, om, ds, dm, hl, ht, ha, hh⟩ := h
  refine hs _ O (en0 N.length om ds) (start N vs) H _ rfl (rel_startT dm (by omega) ht ha) ?_
  unfold fnSem at hh
  rw [if_pos ((pre_len ha).trans hl)] at hh
  cases q : m (en0 N.length om ds) with
  | stuck => rw [q] at hh; exact hh
  | exc x ρ' =>
    rw [q] at hh
    simp only at hh
    intro O' σ' H' cls d st R xa
    cases qi : ioOf om ρ' with
    | none => rw [qi] at hh; exact hh.elim
    | some om' =>
      rw [qi] at hh
      obtain ⟨i1, i2⟩ := io_endT R qi
      refine hW _ _ _ _ (hh.2 H' cls d (stay_endT R) (i2 O R.b0) ?_)
      cases x with
      | own c fs =>
        cases fs with
        | nil => exact xa
        | cons f fs =>
          obtain ⟨x1, a, vs1, x2, x3, x4, x5⟩ := xa
          exact ⟨x1, a, vs1, x2, fun q => x3 (R.b0 a q), x4, RepL.step (mono_step R.b0) _ _ x5⟩
      | ty n => exact xa
  | ok f ρ' =>
    rw [q] at hh
    cases f with
    | bk => exact hh.elim
    | ct => exact hh.elim
    | nx =>
      simp only at hh
      intro O' σ' H' st R
      cases qi : ioOf om ρ' with
      | none => rw [qi] at hh; exact hh.elim
      | some om' =>
        rw [qi] at hh
        obtain ⟨i1, i2⟩ := io_endT R qi
        exact hh.2 H' .non (stay_endT R) ⟨by simp only [Rep], i2 O R.b0⟩
    | rt x =>
      simp only at hh
      intro O' σ' H' v st R rv
      cases qi : ioOf om ρ' with
      | none => rw [qi] at hh; exact hh.elim
      | some om' =>
        rw [qi] at hh
        obtain ⟨i1, i2⟩ := io_endT R qi
        refine hh.2 H' v (stay_endT R) ?_
        obtain ⟨d, b⟩ := x
        cases b with
        | false => exact ⟨Rep.step (mono_step R.b0) _ _ rv, i2 O R.b0⟩
        | true =>
          obtain ⟨a, mm, e1, e2, e3, e4, e5⟩ := rv
          have sub : ∀ b, ins O a b → O' b := fun b q => q.elim (R.b0 b) fun z => by rw [z]; exact e3
          exact ⟨a, mm, e1, e2, e4, e5.step (mono_step sub) rfl, i2 _ sub, fun p hp => tabZ_mono sub (R.tab p hp).2⟩
/-- from a time to a later one, the tables may have grown -/
theorem Rel.stepT {F : Fr} {O O' : Av} {ρ : En} {σ : L2.St} {H H' : Hp} (R : Rel F O ρ σ H) (st : Step O H O' H') (hO : ∀ b, O b → O' b) (hdm : ∀ b, O' b → H' b ≠ none) (hk : ∀ b o, (∀ p ∈ F.w.T, p.1 ≠ b) → H b = some o → H' b = some o) (ht : ∀ p ∈ F.w.T, TabZ O' H' p.1 p.2) : Rel F O' ρ σ H' := by
  have same : ∀ {c : Addr} {m0 : Mu}, MuAt F.w O H c m0 → H' c = H c := fun {c m0} q => by
    cases z : H c with
    | none => exact absurd z q.some
    | some o => exact hk c o (R.tab.ne q.ntab) z
  refine ⟨R.len, fun b q => hO b (R.b0 b q), R.bh, R.ib, hdm, fun b q => st.dom b (R.doh b q), fun b o q n => hk b o (fun p hp z => n tI (z ▸ (R.tab p hp).1)) (R.keep b o q n), fun i s e => ?_, R.dist, fun p hp => ⟨(R.tab p hp).1, ht p hp⟩⟩
  have q := R.slot i s e
  cases s with
  | non => trivial
  | val d =>
    obtain ⟨v, e1, q⟩ := q
    exact ⟨v, e1, Rep.step st d v q⟩
  | own m =>
    obtain ⟨b, e1, q1, q2, q3⟩ := q
    exact ⟨b, e1, hO _ q1, q2, q3.step st (same q3)⟩
  | io m =>
    obtain ⟨b, e1, q1, q3⟩ := q
    exact ⟨b, e1, q1, q3.step st (same q3)⟩
theorem Rel.tabO {F : Fr} {O : Av} {ρ : En} {σ : L2.St} {H : Hp} (R : Rel F O ρ σ H) : ∀ p ∈ F.w.T, O p.1 ∧ TabZ O H p.1 p.2 := fun p hp => ⟨R.b0 _ (R.ib _ _ (R.tab p hp).1), (R.tab p hp).2⟩
end
/-! ### calls of T-defs, in T-frames -/
section
variable {w : Wd} {W : WX} {f : Fn} {k : Nat} {ta : TA} {ma : MA}
end
def codeV : Value → Option Addr
  | .ref c => some c
  | _ => none
theorem codeV_ref {v : Value} {c : Addr} (h : codeV v = some c) : v = .ref c := by
  cases v <;> first | (cases h; rfl) | cases h
/-- the code object of the def at f -/
def codeOf (K : PySem.W.Frag) (f : Addr) : Option Addr := match K.lookup f with
  | some ⟨_, _, .func fd, _⟩ => codeV fd.code
  | _ => none
def DefT (P : Program) (wo : World) (K : PySem.W.Frag) (mg : Str → Option Value) (base : Heap) (w : Wd) (x : Str) (n j : Nat) (f : Fn) : Prop :=
  ∃ a fd ps, ps.length = n ∧ FnG P wo K mg base CX0 j a fd ps (spT w n f) ∧ mg x = some (.ref a) ∧ PySem.W.keepIn K (.ref a) = true ∧ Binds K fd ps []
section
variable {w : Wd} {W : WX} {X : Cx} {pos p : Pos} {x : Str} {e : Expr} {es : List Expr} {ma : MA} {f : Fn} {n j : Nat}
end
section
variable {P : Program} {wo : World} {K : PySem.W.Frag} {mg : Str → Option Value} {base : Heap} {w : Wd}
theorem noX_holdT {f : Fn} {vs : List V} {H : Hp} {Q : VK} {E E' : XK} {k : Nat} (h : spT w k (noX f) vs H Q E) : spT w k f vs H Q E' := by
  obtain ⟨O, om, ds, dm, hl, ht, ha, hh⟩ := h
  refine ⟨O, om, ds, dm, hl, ht, ha, ?_⟩
  unfold noX at hh
  cases q : f om ds with
  | ret x m => rw [q] at hh; exact hh
  | exc x m => rw [q] at hh; exact hh.elim
  | stuck => rw [q] at hh; exact hh.elim
theorem fn_okT {x qual : Str} {st : Stmt} {f c : Addr} {fd : FuncData} {N ps : List Str} {k : Nat} {m : MS} (hc : codeOf K f = some c) (F : Fun K x qual st f fd) (S : FnScope N ps (defScope st)) (hl : ps.length ≤ N.length)
    (hb : ∀ (A : Around) (outer : List Env) (s : Shared) (H : Hp) (E : XK), A.guards = some [] → Room k (A.deeper (envOfC qual (defScope st) s.heap.objs.size f (.ref c))) →
      PMSs (cxOf CX0 P wo K mg base N qual (defScope st) f (.ref c) A outer s H E).nox w W0 (defBody st) m) : FnG P wo K mg base CX0 (k + 1) f fd ps (spT w ps.length (noX (fnSem N.length ps.length m))) := by
  have len : ∀ vs H Q E, spT w ps.length (noX (fnSem N.length ps.length m)) vs H Q E → vs.length = ps.length := fun vs H Q E h => by
    obtain ⟨O, om, ds, _, hl, _⟩ := h
    exact hl
  obtain ⟨oc, od, kV, doc, pm, an, cdv, ct, osl, rfl, lk, hcd⟩ := F.ex
  have ec : cdv = .ref c := by
    unfold codeOf at hc
    rw [lk] at hc
    exact codeV_ref hc
  subst ec
  refine fn_ofG lk hcd S len fun A outer s H vs Q E hgu hr h => ?_
  obtain ⟨t, p, sm⟩ := hb A outer s H E hgu hr
  exact ⟨t, p.nox, body_okT (E := fun _ _ _ => False) sm (fun _ _ _ _ z => z) hl (noX_holdT h)⟩
end
end PM

/-! try: v = f(x, y) / except A as n: return n.f -/
namespace PM
open PySem PySem.Spec PyProof.Rows L2
section
variable {F : Fr} {O : Av} {ρ : En} {σ σ' : L2.St} {H H' : Hp} {E : Ends} {i : Nat} {C : Addr} {f : Str} {dd : D}
end
section
variable {w : Wd} {X : Cx} {c i i0 i1 iv k : Nat} {f1 : Str} {fn : Fn} {f x y v n x1 : Str} {q0 q1 q2 q3 q4 q5 r1 r2 r4 r5 qv pos pl0 : Pos}
end
end PM

/-! f(lambda: e), where f tries it and tells what the error keeps -/
namespace PM
open PySem PySem.Spec PyProof.Rows L2 LamX
theorem takes_len {X : Cx} {W : WX} (tk : Takes X W) : Takes X (fun cls d σ H => σ.length = X.N.length → W cls d σ H) := fun u s' ⟨a, B, sI, pins, σ, H, cls, d, e, I, nb, up, sky, na, os, ag, z⟩ =>
  tk u s' ⟨a, B, sI, pins, σ, H, cls, d, e, I, nb, up, sky, na, os, ag, z I.len⟩
/-- the table at P is well kept: each code object that it tells is one named q -/
def TabW (H : Hp) (q : Str) (ps : Array Value) : Prop := TriplesOk ps.toList ∧ ∀ (pos : Pos) (cv : Value), codeAmong pos ps.toList = some cv → ∃ c, cv = .ref c ∧ H c = some (CodeO c q)
section
variable {X : Cx} {pins : List (Addr × Obj)} {σ : L2.St} {H : Hp} {s : Shared}
/-- a lambda is made; of what is tracked just the one table changes -/
theorem lam_new {cc P : Addr} {ps : Array Value} {prm : Arguments} {ex : Expr} {sc : Scope} {at_ : Pos} {Er Q : Value → Shared → Prop} (J : Inv X pins σ H s) (B : TabB X.base X.mg cc P) (code : X.env.code = .ref cc)
    (tb : H P = some (.tbl ps)) (tw : TabW H (X.env.qual ++ "<lambda>") ps) (nd : defaultsOf prm X.env = ([], [])) (fr : ∀ y ∈ sc.names, y.2 = .free → ∃ k, X.env.cells.lookup y.1 = some k)
    (go : ∀ (fa cn : Addr) (pm ctv : Value) (H1 : Hp) (s1 : Shared) (ps1 : Array Value), Inv X pins σ H1 s1 → (∀ b o, b ≠ P → H b = some o → H1 b = some o) → H1 P = some (.tbl ps1) → TriplesOk ps1.toList →
      (∀ (pos : Pos) (cv : Value), codeAmong pos ps1.toList = some cv → ∃ c, cv = .ref c ∧ H1 c = some (CodeO c (X.env.qual ++ "<lambda>")) ∧ (codeAmong pos ps.toList = some cv ∨ H c = none)) →
      s1.heap.get? fa = some (PySem.W.kla_obj "<lambda>" (X.env.qual ++ "<lambda>") prm ex sc (cloFrom X.env.cells sc.names []) pm cn ctv) → H1 fa = none → fa ∉ frs X.stack → H1 cn = some (CodeO cn (X.env.qual ++ "<lambda>")) → Q (.ref fa) s1) :
    wpAny (model X.prog X.w) X.A (eval (.Lambda prm ex sc at_) X.env) Q Er s := by
  obtain ⟨tri, known⟩ := tw
  have blt := B.bm.keeps J.bk
  have seen : s.heap.get? P = some { cls := .none, data := .fields ps } := J.hok P _ tb
  have off : ∀ {b : Addr}, s.heap.objs.size ≤ b → b ∉ frs X.stack := fun {b} hb z => by
    rcases List.mem_cons.mp (J.stkSub _ z) with rfl | z
    · exact absurd (Nat.lt_of_lt_of_le J.lt hb) (Nat.lt_irrefl _)
    · exact J.nofs hb z
  have glb := J.mod.glob.keeps J.bk
  have cde := B.code.keeps J.bk
  refine PySem.W.kla_eval nd ?_
  cases fnd : codeAmong at_ ps.toList with
  | some cv =>
    obtain ⟨cn, rfl, hcn⟩ := known at_ cv fnd
    refine PySem.W.kla_makeFunctionHit (mg := X.mg) (c := cc) (P := P) (ps := ps) (closure_ok fr) J.ok.glob glb code cde seen tri fnd blt fun ctv h1 tk old sz => ?_
    have J1 := J.kept (t' := tk) (h' := h1.push (PySem.W.kla_obj "<lambda>" (X.env.qual ++ "<lambda>") prm ex sc (cloFrom X.env.cells sc.names []) ((X.mg "__name__").getD .none) cn ctv)) fun b o e => Heap.get?_push_of_some _ (old b o e)
    exact go h1.objs.size cn _ ctv H _ ps J1 (fun _ _ _ e => e) tb tri (fun pos cv e => (known pos cv e).imp fun c z => ⟨z.1, z.2, .inl e⟩) (Heap.get?_push_size _ rfl) (J.hok.fresh sz) (off sz) hcn
  | none =>
    refine PySem.W.kla_makeFunction (mg := X.mg) (c := cc) (P := P) (ps := ps) (closure_ok fr) J.ok.glob glb code cde seen tri fnd B.gP blt fun cn ctv h1 tk but lo hi rec_ tab1 => ?_
    obtain ⟨c2, oc, vs, t, ec, g1, g2, g3⟩ := rec_
    cases ec
    have sz : s.heap.objs.size ≤ h1.objs.size := Nat.le_of_lt (Nat.lt_of_le_of_lt lo hi)
    have nw : H cn = none := J.hok.fresh lo
    have pc : P ≠ cn := ne_of_none tb nw
    generalize hmore : (#[rawInt at_.line, rawInt at_.col, .ref cn] : Array Value) = more at tab1
    have tl : (ps ++ more).toList = ps.toList ++ [rawInt at_.line, rawInt at_.col, .ref cn] := by rw [← hmore]; simp
    generalize hq : X.env.qual ++ ("<lambda>" : Str) = q at *
    have J1 := inv_table (q := q) (t' := tk) (more := more) (h' := h1.push (PySem.W.kla_obj "<lambda>" q prm ex sc (cloFrom X.env.cells sc.names []) ((X.mg "__name__").getD .none) cn ctv)) J tb (fun b o hb e => Heap.get?_push_of_some _ (but b o hb e)) (Heap.get?_push_of_some _ tab1) lo ⟨oc, vs, t, Heap.get?_push_of_some _ g1, g2, g3⟩
    have self : upd (upd H P (.tbl (ps ++ more))) cn (CodeO cn q) cn = some (CodeO cn q) := upd_same
    have rest : ∀ b o, b ≠ P → H b = some o → upd (upd H P (.tbl (ps ++ more))) cn (CodeO cn q) b = some o := fun b o nb e => by
      rw [upd_ne (ne_of_none e nw), upd_ne nb]
      exact e
    have atP : upd (upd H P (.tbl (ps ++ more))) cn (CodeO cn q) P = some (.tbl (ps ++ more)) := by rw [upd_ne pc, upd_same]
    have nf : upd (upd H P (.tbl (ps ++ more))) cn (CodeO cn q) h1.objs.size = none := by
      rw [upd_ne (Nat.ne_of_gt hi), upd_ne (Nat.ne_of_gt (Nat.lt_of_lt_of_le (Heap.lt_size seen) sz))]
      exact J.hok.fresh sz
    refine go h1.objs.size cn _ ctv _ _ (ps ++ more) J1 rest atP (by rw [tl]; exact PySem.TriplesOk_snoc _ _ _ _ tri) (fun pos cv e => ?_) (Heap.get?_push_size _ rfl) nf (off sz) self
    rw [tl] at e
    rcases among_app _ tri e with z | z
    · obtain ⟨c, rfl, hc⟩ := known pos cv z
      exact ⟨c, rfl, rest c _ (fun y => by rw [y, tb] at hc; exact codeO_ne _ (Option.some.inj hc).symm) hc, .inl z⟩
    · exact ⟨cn, z, self, .inr nw⟩
end
/-- what f(lambda: e) asks: t, the lambda's reading; TT, what f makes of it -/
def tLamP (P : Addr) (q : Str) (TT : (XK → Hp → VK → Prop) → Hp → VK → Prop) (t : XK → TE) : TE := fun σ H Q => ∃ ps, H P = some (.tbl ps) ∧ TabW H q ps ∧
  ∀ (H1 : Hp) (ps1 : Array Value), (∀ b o, b ≠ P → H b = some o → H1 b = some o) → H1 P = some (.tbl ps1) → TriplesOk ps1.toList →
    (∀ (pos : Pos) (cv : Value), codeAmong pos ps1.toList = some cv → ∃ c, cv = .ref c ∧ H1 c = some (CodeO c q) ∧ (codeAmong pos ps.toList = some cv ∨ H c = none)) → TT (fun E H' Q' => t E σ H' Q') H1 Q
section
variable {X : Cx}
theorem pe_lamP {TT : (XK → Hp → VK → Prop) → Hp → VK → Prop} {x a : Str} {g cc P : Addr} {k : Nat} {pg : Arguments} {bg : List Stmt} {sg : Scope} {dV kV doc pm cdv ct oc : Value} {an od : Option Addr} {osl : Array (Option Value)} {Ng : List Str}
    {prm : Arguments} {ex : Expr} {sc : Scope} {t : XK → TE} {p lp pos : Pos} (gl : Gl X x) (mgx : X.mg x = some (.ref g)) (kp : PySem.W.keepIn X.K (.ref g) = true)
    (look : X.K.lookup g = some ⟨oc, od, .func (PySem.W.fnOf x x pg bg sg dV kV doc pm an cdv ct), osl⟩) (cin : PySem.W.codeIn X.K cdv x = true) (bind : L2.Binds X.K (PySem.W.fnOf x x pg bg sg dV kV doc pm an cdv ct) [a] []) (Sg : FnScope Ng [a] sg) (n0 : Ng[0]? = some a) (va : Vis sg a)
    (gives : GivesTo X Ng x sg g cdv bg a (X.env.qual ++ "<lambda>") TT) (B : TabB X.base X.mg cc P) (code : X.env.code = .ref cc) (rm : Room (k + 2) X.A) (L : LamS X.env.scope sc) (nd : defaultsOf prm X.env = ([], []))
    (lb : ∀ (q : Str) (cl : List (Str × Addr)) (pm cv ctv : Value), bindArgs (PySem.W.kla_fn "<lambda>" q prm ex sc cl pm cv ctv) ⟨[], []⟩ = pure [])
    (inner : ∀ (A : Around) (outer : List Env) (s : Shared) (H : Hp) (E : XK) (f c' : Addr), Room k (A.deeper (lamEnv X sc s.heap.objs.size f c')) → PE (lamCx X A outer s H E sc f c') ex (t E))
    (d1 : (x == ("__debug__" : Str)) = false := by decide) (d2 : (a == ("__debug__" : Str)) = false := by decide) (d3 : (a == ("__classdict__" : Str)) = false := by decide) :
    PE X (.Call (.Name x p) [.Lambda prm ex sc lp] [] pos) (tLamP P (X.env.qual ++ "<lambda>") TT t) := by
  refine ⟨fun pins s σ H Q I ⟨ps, hP, tw, hq⟩ => wpAny_Call_Name_kw (ld_glob I gl mgx ?_ d1)⟩
  refine PySem.W.callWith_K (h₀ := X.base) I.ok.mod.kin kp ?_ (by rfl) (by rfl)
  show wpAny _ _ (spliced ((false, eval (.Lambda prm ex sc lp) X.env) :: backTo pos (starEach [] X.env))) _ _ s
  refine Calls.spliced_cons (lam_new I B code hP tw nd (L.has I.ok) fun fa cn pm' ctv H1 s1 ps1 I1 k1 k2 k3 k4 hf hn hs hc => ?_)
  refine Calls.spliced_nil ⟨I1.kIn, wpAny_call ?_⟩
  have run : codeAny (model X.prog X.w) X.A (.call (.ref g) ⟨[.ref fa], []⟩) (CR C8.CX0 X.stack X.prog X.w H1 s1 Q C8.E0) s1 := by
    refine run_ofS (N := Ng) (ps := [a]) (us := [.ref fa]) (vs := [.ref fa]) look cin Sg rm I1.env0 (bind s1 [.ref fa] I1.kIn rfl) (.cons rfl .nil) rfl fun rm' => ?_
    obtain ⟨tt, pt, wish⟩ := gives fa cn s1 H1 Q (fun E H' Q' => t E σ H' Q') (fun W pn xe E p1 p2 tk hW => pe_act (i := 0) I1 L hf hn hs (lb _ _ _ _ _) tk hW rm' (fun A outer s H r2 => inner A outer s H E fa cn r2) n0 va d2 d3) hc (hq H1 ps1 k1 k2 k3 k4)
    exact ⟨tt, pt.nox, wish⟩
  refine codeAny_mono run fun r s2 hr => ?_
  rcases r with e | fl
  · exact (show False from hr).elim
  · cases fl with
    | ret u => exact I1.after hr
    | next => exact hr.elim
    | brk => exact hr.elim
    | cont => exact hr.elim
end
/-! ### try: return a() / except C as n: return n.f -/
/-! ### the meaning -/
end PM

/-! the law's end where tables of code objects grow; what is seen of the head, without these tables -/
namespace PM
open PySem PySem.Spec PyProof.Rows L2 LamX
/-- a table as it is at first -/
abbrev tab0 : Obj := { cls := .none, data := .fields #[] }
/-- nothing but the script and the tables is tracked -/
structure OnlyT (Ps : List Addr) (G : Hp) : Prop where
  tbl : ∀ b ∈ Ps, G b = some (.tbl #[])
  rest : ∀ b, G b = none ∨ b ∈ Ps ∨ ∃ o xs, G b = some (.frz o (.lst xs))
section
variable {P : Program} {wo : World} {K : PySem.W.Frag} {mg mb : Str → Option Value} {Z : CXT} {k : Nat} {fa a : Addr} {fd : FuncData} {x : Str} {sp : Sp} {s1 : Shared} {us : List Value} {ns : List Int} {cs : List (Addr × Addr)}
theorem law_callGT (KX : K.In s1.heap) (hns : s1.heap.Ns mainGlobals mg) (hb : s1.heap.Ns builtinsNs mb) (hbb : ∀ x : Str, x ≠ "__name__" → mb x = bootBuiltins x) (hlim : s1.heap.NoLimit) (hg : s1.gens = #[])
    (tE : ∀ p ∈ cs, s1.heap.get? p.2 = some tab0) (tK : ∀ p ∈ cs, K.lookup p.2 = none) (tC : ∀ p ∈ cs, PySem.W.CodeHd s1.heap p.1 p.2)
    (bmn : ∃ (bm : Addr) (ob : Obj), mg "__builtins__" = some (.ref bm) ∧ bm ≠ builtinsNs ∧ s1.heap.get? bm = some ob ∧ ob.cls = .type "module" ∧ ob.dict = some builtinsNs ∧ ob.data = .plain)
    (ha : s1.heap.get? a = some { cls := .type "list", data := .seq us.toArray }) (hi : IntsAre us ns) (hl : ns.length ≤ sizeLine) (hr : Room k callerA) (hgu : callerA.guards = some [])
    (F : ∀ b0 : Heap, K.In b0 → b0.Ns mainGlobals mg → (∀ p ∈ cs, TabB b0 mg p.1 p.2) → FnG P wo K mg b0 Z k fa fd [x] sp) (hbind : ∀ (s : Shared) (u : Value), BindsTo s fd ⟨[u], []⟩ [(x, u)])
    (hsp : ∀ H : Hp, OnlyT (cs.map (·.2)) H → SqL K H a (ns.map V.int) → sp [.ref a] H (fun v _ => v = .bl true) fun _ _ _ => False) (hZ : ∀ H e s', Z [] H s1 (fun _ _ _ => False) e s' → False) :
    codeAny (model P wo) callerA (.call (.ref fa) ⟨[.ref a], []⟩) (fun r s' => r = .ok (.ret (.bool true)) ∧ OldK s1.heap s'.heap ∧ s'.os = s1.os ∧ AllBare s'.gens) s1 := by
  have rv := vals_ints hi
  have lenV := hi.length
  have atT : ∀ b, b ∈ cs.map (·.2) → s1.heap.get? b = some tab0 ∧ K.lookup b = none := fun b hb => by
    obtain ⟨p, hp, rfl⟩ := List.mem_map.mp hb
    exact ⟨tE p hp, tK p hp⟩
  have aT : a ∉ cs.map (·.2) := fun z => by
    have y := (atT a z).1
    rw [ha] at y
    cases (show Data.seq us.toArray _ = Data.fields #[] from congrArg Obj.data (Option.some.inj y))
  have core : ∀ G : Hp, OnlyT (cs.map (·.2)) G → SqL K G a (ns.map V.int) → HOk P wo G s1.heap → (∀ b, G b ≠ none → b = a ∨ b ∈ cs.map (·.2)) → (G a ≠ none → K.lookup a = none) →
      codeAny (model P wo) callerA (.call (.ref fa) ⟨[.ref a], []⟩) (fun r s' => r = .ok (.ret (.bool true)) ∧ OldK s1.heap s'.heap ∧ s'.os = s1.os ∧ AllBare s'.gens) s1 := fun G hO hS hok hA hKn => by
    have old : ∀ {b : Addr} {o : Obj}, s1.heap.get? b = some o → G b = none → (hidT s1.heap G).get? b = some o := fun e n => hidT_get e n
    have free : ∀ {b : Addr} {o : Obj}, s1.heap.get? b = some o → (∀ vs n, o.data ≠ .seq vs n) → o.data ≠ .fields #[] → G b = none := fun {b o} e y1 y2 => by
      cases q : G b with
      | none => rfl
      | some u =>
        rcases hA b (by rw [q]; simp) with rfl | z
        · rw [ha] at e
          cases e
          exact absurd rfl (y1 _ _)
        · rw [(atT b z).1] at e
          cases e
          exact absurd rfl y2
    have freeD : ∀ {b : Addr} {o : Obj} {es : Array DictEntry} {ep : Nat}, s1.heap.get? b = some o → o.data = .dict es ep → G b = none := fun e d => free e (fun _ _ z => by rw [d] at z; cases z) fun z => by rw [d] at z; cases z
    have nsK : ∀ {b : Addr} {m : Str → Option Value}, s1.heap.Ns b m → (hidT s1.heap G).Ns b m := fun {b m} z => by
      obtain ⟨o, es, ep, e, d, r⟩ := z
      exact ⟨o, es, ep, old e (freeD e d), d, r⟩
    have inB : K.In (hidT s1.heap G) := fun b o e => by
      refine old (KX b o e) ?_
      cases q : G b with
      | none => rfl
      | some u =>
        rcases hA b (by rw [q]; simp) with rfl | z
        · rw [hKn (by rw [q]; simp)] at e
          cases e
        · rw [(atT b z).2] at e
          cases e
    have nol : (hidT s1.heap G).NoLimit := by
      obtain ⟨mc, h1, h2⟩ := hlim
      exact ⟨mc, nsK h1, h2⟩
    have glob : ∀ b, s1.heap.get? b = some tab0 → b ≠ mainGlobals := fun b e z => by
      obtain ⟨o, es, ep, e2, d, _⟩ := hns
      rw [z, e2] at e
      cases e
      cases d
    have tabs : ∀ p ∈ cs, TabB (hidT s1.heap G) mg p.1 p.2 := fun p hp => by
      have e0 := tE p hp
      refine ⟨?_, ?_, fun z => glob _ e0 z.symm⟩
      · obtain ⟨o, vs, f1, f2, f3, f4, f5, f6, f7, e1, r1, r2, r3, r⟩ := tC p hp
        refine ⟨o, vs, f1, f2, f3, f4, f5, f6, f7, old e1 (free e1 (fun _ _ z => ?_) fun z => ?_), r1, r2, r3, r⟩
        · rw [r2] at z
          cases z
        · rw [r2] at z
          cases z
          simp at r3
      · obtain ⟨bm, ob, y1, y2, y3, y4, y5, y6⟩ := bmn
        refine ⟨bm, ob, y1, y2, fun z => ?_, fun z => ?_, old y3 (free y3 (fun _ _ z => by rw [y6] at z; cases z) fun z => by rw [y6] at z; cases z), y4, y5, y6⟩
        · obtain ⟨o, es, ep, e2, d, _⟩ := hns
          rw [z, e2] at y3
          cases y3
          rw [d] at y6
          cases y6
        · rw [z, e0] at y3
          cases y3
          cases y6
    have e0 : Env0 P wo K mg (hidT s1.heap G) callerA [] s1 G := ⟨rfl, ⟨inB, nsK hns, ⟨mb, nsK hb, hbb⟩, nol⟩, fun b o e => of_hidT e, Nat.le_of_eq (hidT_size _ _), trivial, fun b z => absurd (show b ∈ ([] : List Addr) from z) (by simp), hok, .of_eq hg⟩
    refine codeAny_mono ((F _ inB (nsK hns) tabs).run callerA [] s1 G ⟨[.ref a], []⟩ [.ref a] [.ref a] _ _ hgu hr e0 (hbind s1 (.ref a)) (.cons rfl .nil) (hsp G hO hS)) fun r s' h => ?_
    rcases r with e | fl
    · exact (hZ G e s' h).elim
    · cases fl with
      | next => exact h.elim
      | brk => exact h.elim
      | cont => exact h.elim
      | ret u =>
        obtain ⟨v, G', os, bare, un, hok', r', q⟩ := h
        cases (show v = .bl true from q)
        cases (show u = Value.bool true from r')
        have as_ : ∀ b o, b ∉ cs.map (·.2) → s1.heap.get? b = some o → s'.heap.get? b = some o := fun b o nb e => by
          cases q : G b with
          | none => exact un.keep b o e q (fun z => absurd (show b ∈ ([] : List Addr) from z) (by simp)) (by simp)
          | some u =>
            rcases hO.rest b with z | z | ⟨ob, xs, z⟩
            · rw [q] at z
              cases z
            · exact absurd z nb
            · have e1 := (hok b _ z).1
              have e2 := (hok' b _ (un.frzs b ob _ z)).1
              rw [e] at e1
              cases e1
              exact e2
        have more : ∀ b, b ∈ cs.map (·.2) → ∃ ps : Array Value, s'.heap.get? b = some { cls := .none, data := .fields ps } := fun b hb => by
          obtain ⟨ps, z⟩ := un.tbls b #[] (hO.tbl b hb)
          exact ⟨_, hok' b _ z⟩
        refine ⟨rfl, ⟨fun b o e => ?_, fun b o e => ?_⟩, os, bare⟩
        · by_cases hb : b ∈ cs.map (·.2)
          · obtain ⟨ps, z⟩ := more b hb
            obtain ⟨p, hp, rfl⟩ := List.mem_map.mp hb
            rw [tE p hp] at e
            cases e
            exact .inr (.inl ⟨((tC p hp).tab (tE p hp)).isCodeTable, rfl, #[], ps, rfl, by rw [Array.empty_append]; exact z⟩)
          · exact .inl (as_ b o hb e)
        · by_cases hb : b ∈ cs.map (·.2)
          · obtain ⟨ps, z⟩ := more b hb
            exact ⟨_, z⟩
          · exact ⟨o, as_ b o hb e⟩
  have Gt : ∀ (G0 : Hp), (∀ b, b ∈ cs.map (·.2) → G0 b = some (.tbl #[])) → (∀ b, b ≠ a → b ∉ cs.map (·.2) → G0 b = none) → ∀ b u, b ≠ a → G0 b = some u → ObjOk P wo G0 s1.heap b u := fun G0 y1 y2 b u nb e => by
    by_cases hb : b ∈ cs.map (·.2)
    · rw [y1 b hb] at e
      cases e
      exact (atT b hb).1
    · rw [y2 b nb hb] at e
      cases e
  cases hk : K.lookup a with
  | some o =>
    have e := KX a o hk
    rw [ha] at e
    cases e
    have on : ∀ b, b ∈ cs.map (·.2) → (fun c => if c ∈ cs.map (·.2) then some (HO.tbl #[]) else none) b = some (HO.tbl #[]) := fun b z => if_pos z
    have off_ : ∀ b, b ∉ cs.map (·.2) → (fun c => if c ∈ cs.map (·.2) then some (HO.tbl #[]) else none) b = none := fun b z => if_neg z
    refine core (fun c => if c ∈ cs.map (·.2) then some (HO.tbl #[]) else none) ⟨on, fun b => ?_⟩ (.inr ⟨_, us.toArray, _, hk, rfl, rfl, rfl, by rw [List.size_toArray, lenV]; exact hl, by simpa using rv⟩) (fun b u z => ?_) (fun b z => ?_) fun z => absurd (off_ a aT) z
    · by_cases y : b ∈ cs.map (·.2)
      · exact .inr (.inl y)
      · exact .inl (off_ b y)
    · by_cases y : b = a
      · rw [y] at z
        exact absurd z (by rw [show (fun c => if c ∈ cs.map (·.2) then some (HO.tbl #[]) else none) a = none from off_ a aT]; simp)
      · exact Gt _ on (fun b _ z => off_ b z) b u y z
    · by_cases y : b ∈ cs.map (·.2)
      · exact .inr y
      · exact absurd (off_ b y) z
  | none =>
    generalize hG : (fun c => if c = a then some (HO.frz { cls := .type "list", data := .seq us.toArray } (.lst (ns.map V.int))) else if c ∈ cs.map (·.2) then some (HO.tbl #[]) else none : Hp) = G
    have at_ : G a = some (HO.frz { cls := .type "list", data := .seq us.toArray } (.lst (ns.map V.int))) := by rw [← hG]; exact if_pos rfl
    have on : ∀ b, b ∈ cs.map (·.2) → G b = some (HO.tbl #[]) := fun b z => by
      rw [← hG]
      exact (if_neg (fun y : b = a => aT (y ▸ z))).trans (if_pos z)
    have off_ : ∀ b, b ≠ a → b ∉ cs.map (·.2) → G b = none := fun b y z => by
      rw [← hG]
      exact (if_neg y).trans (if_neg z)
    refine core G ⟨on, fun b => ?_⟩ (.inl (.inr ⟨_, at_⟩)) (fun b u z => ?_) (fun b z => ?_) fun _ => hk
    · by_cases e : b = a
      · exact .inr (.inr ⟨_, _, by rw [e]; exact at_⟩)
      · by_cases y : b ∈ cs.map (·.2)
        · exact .inr (.inl y)
        · exact .inl (off_ b e y)
    · by_cases e : b = a
      · subst e
        rw [at_] at z
        cases z
        exact ⟨ha, by rw [List.length_map]; exact hl, us, _, rv, ha⟩
      · exact Gt G on off_ b u e z
    · by_cases e : b = a
      · exact .inl e
      · by_cases y : b ∈ cs.map (·.2)
        · exact .inr y
        · exact absurd (off_ b e y) z
end
theorem walk_GT {l : PySem.W.OpenLaw} {n k : Nat} {q : Program} {loose : List Str} {XP : (Str → Option Value) → Heap → Prop} {YP : World → Heap → Prop} {d : DefRec} {Z : CXT} {x : Str} (hn : l.most = some n) (hn2 : n ≤ sizeLine) (hdf : d.params.defaults = []) (hr : Room k callerA) (hgu : callerA.guards = some [])
    (F : ∀ (w : World) (mg : Str → Option Value) (fa : Addr) (h : Heap), YP w h → h.Ns mainGlobals mg → mg d.name = some (.ref fa) →
      ∃ (K : PySem.W.Frag) (fd : FuncData) (sp : Sp) (cs : List (Addr × Addr)), K.In h ∧ (∀ p ∈ cs, h.get? p.2 = some tab0) ∧ (∀ p ∈ cs, K.lookup p.2 = none) ∧ (∀ p ∈ cs, PySem.W.CodeHd h p.1 p.2) ∧ (∀ (s : Shared) (u : Value), BindsTo s fd ⟨[u], []⟩ [(x, u)]) ∧
        (∀ (H : Hp) (a : Addr) (ns : List Int), ns.length ≤ n → OnlyT (cs.map (·.2)) H → SqL K H a (ns.map V.int) → sp [.ref a] H (fun v _ => v = .bl true) fun _ _ _ => False) ∧
        ∀ b0 : Heap, K.In b0 → b0.Ns mainGlobals mg → (∀ p ∈ cs, TabB b0 mg p.1 p.2) → FnG l.prog w K mg b0 Z k fa fd [x] sp)
    (hZ : ∀ (H : Hp) (s : Shared) (e : Value) (s' : Shared), Z [] H s (fun _ _ _ => False) e s' → False) : PySem.W.WalkO q loose XP YP l.row.toRowW d [] (fun f vs => PySem.call f vs) := by
  refine Att.attach_call hn hdf fun w s0 s1 mg mb fa o pm cd doc a vs ns G Y ho hd hcd hmg hobj hints hlen hg => ?_
  obtain ⟨K, fd, sp, cs, KX, c1, c2, c3, hb, hsp, hF⟩ := F w mg fa _ Y G.T.g hmg
  exact law_callGT KX G.T.g G.T.b G.T.builtins G.T.nolimit hg c1 c2 c3 G.T.bmain hobj hints (Nat.le_trans hlen hn2) hr hgu hF hb (fun H hO hS => hsp H a ns hlen hO hS) fun H e s' => hZ H s1 e s'
/-- the law's promise, of what it makes of its script -/
theorem law_spT {w : Wd} {Ps : List Addr} {f : Fn} {H : Hp} {a : Addr} {ns : List Int} (hP : ∀ p ∈ w.T, p.1 ∈ Ps) (hO : OnlyT Ps H) (h : SqL w.K H a (ns.map V.int)) (e : f none [.scr (ns.map D.int)] = .ret (.bl true, false) none) : spT w 1 f [.ref a] H (fun v _ => v = .bl true) fun _ _ _ => False := by
  have tb : ∀ p ∈ w.T, H p.1 = some (.tbl #[]) := fun p hp => hO.tbl _ (hP p hp)
  have rl : ∀ (O : Av) (ns : List Int), RepL w O H (ns.map D.int) (ns.map V.int) := fun O ns => by
    induction ns with
    | nil => simp [RepL]
    | cons n ns ih => simp only [List.map_cons, RepL, Rep]; exact ⟨_, _, rfl, rfl, ih⟩
  refine ⟨fun b => ∃ p ∈ w.T, p.1 = b, none, [.scr (ns.map D.int)], fun b ⟨p, hp, z⟩ => ?_, rfl, fun p hp => ⟨⟨p, hp, rfl⟩, #[], tb p hp, True.intro, fun pos cv hc => ?_⟩, ?_, ?_⟩
  · rw [← z, tb p hp]
    simp
  · have z : codeAmong pos [] = some cv := hc
    simp [codeAmong] at z
  · show RepL w _ H [D.scr (ns.map D.int)] [.ref a]
    simp only [RepL, Rep]
    refine ⟨_, _, rfl, ⟨a, ns.map V.int, rfl, ?_, rl _ ns⟩, rfl⟩
    rcases h with (h | ⟨o, h⟩) | h
    · rcases hO.rest a with z | z | ⟨o, xs, z⟩
      · rw [h] at z; cases z
      · rw [hO.tbl a z] at h; cases h
      · rw [h] at z; cases z
    · refine .inl ⟨o, fun ⟨p, hp, q⟩ => ?_, h⟩
      have y := tb p hp
      rw [q, h] at y
      cases y
    · exact .inr h
  · rw [e]
    refine ⟨rfl, fun H' v _ r => ?_⟩
    have r1 := r.1
    simp only [Rep] at r1
    exact r1
/-! ### what is seen of the head -/
/-- without the things at ps -/
def dropK (ps : List Addr) (K : PySem.W.Frag) : PySem.W.Frag := K.filter fun e => !ps.contains e.1
theorem dropK_some {ps : List Addr} : ∀ {K : PySem.W.Frag} {a : Addr} {o : Obj}, (dropK ps K).lookup a = some o → K.lookup a = some o ∧ a ∉ ps
  | [], a, o, h => by cases h
  | (b, u) :: K, a, o, h => by
    unfold dropK at h
    rw [List.filter_cons] at h
    by_cases hb : ps.contains b = true
    · rw [if_neg (show ¬ ((!ps.contains b) = true) by rw [hb]; decide)] at h
      obtain ⟨h1, h2⟩ := dropK_some (K := K) h
      refine ⟨?_, h2⟩
      rw [List.lookup_cons]
      have ne : (a == b) = false := by
        rw [beq_eq_false_iff_ne]
        rintro rfl
        exact h2 (List.contains_iff_mem.mp hb)
      rw [ne]
      exact h1
    · rw [if_pos (show (!ps.contains b) = true by rw [Bool.not_eq_true'] ; exact Bool.not_eq_true _ ▸ hb)] at h
      rw [List.lookup_cons] at h ⊢
      cases e : a == b with
      | true =>
        rw [e] at h
        have : a = b := beq_iff_eq.mp e
        subst this
        exact ⟨h, fun z => hb (List.contains_iff_mem.mpr z)⟩
      | false =>
        rw [e] at h
        exact dropK_some (K := K) h
/-- where the code object and its table stand, by the def's name -/
def tabsOf (xs : List Str) (K : PySem.W.Frag) : List (Addr × Addr) := xs.filterMap fun x => PySem.W.tabIn K x
def isTab0 : Option Obj → Bool
  | some ⟨.none, none, .fields a, sl⟩ => a.size == 0 && sl.size == 0
  | _ => false
theorem isTab0_eq {o : Option Obj} (h : isTab0 o = true) : o = some tab0 := by
  unfold isTab0 at h
  split at h
  · rename_i a sl
    rw [Bool.and_eq_true, beq_iff_eq, beq_iff_eq] at h
    have e1 : a = #[] := Array.eq_empty_of_size_eq_zero h.1
    have e2 : sl = #[] := Array.eq_empty_of_size_eq_zero h.2
    rw [e1, e2]
  · cases h
def tabOk (K : PySem.W.Frag) (g : Addr → Option Obj) (x : Str) : Bool := match PySem.W.tabIn K x with
  | some (c, P) => PySem.W.codeHdIn K c P && (K.lookup P).isNone && isTab0 (g P)
  | none => false
/-- a def's table: known of K and h -/
def TabOkF (K : PySem.W.Frag) (h : Heap) (x : Str) : Prop := ∃ c P, PySem.W.tabIn K x = some (c, P) ∧ PySem.W.CodeHd h c P ∧ K.lookup P = none ∧ h.get? P = some tab0
theorem tabOk_ok {K : PySem.W.Frag} {h : Heap} {x : Str} (X : K.In h) (e : tabOk K h.get? x = true) : TabOkF K h x := by
  unfold tabOk at e
  split at e
  · rename_i c P q
    rw [Bool.and_eq_true, Bool.and_eq_true] at e
    exact ⟨c, P, q, PySem.W.codeHd_of_K X e.1.1, Option.isNone_iff_eq_none.mp e.1.2, isTab0_eq e.2⟩
  · cases e
def nodupA : List Addr → Bool
  | [] => true
  | a :: r => !r.contains a && nodupA r
theorem nodupA_ok : ∀ {l : List Addr}, nodupA l = true → l.Nodup
  | [], _ => List.nodup_nil
  | a :: r, h => by
    unfold nodupA at h
    rw [Bool.and_eq_true] at h
    refine List.nodup_cons.mpr ⟨fun z => ?_, nodupA_ok h.2⟩
    have : r.contains a = true := List.contains_iff_mem.mpr z
    rw [this] at h
    cases h.1
def tabP (K : PySem.W.Frag) (x : Str) : Addr := match PySem.W.tabIn K x with
  | some (_, P) => P
  | none => 0
def tabC (K : PySem.W.Frag) (x : Str) : Addr := match PySem.W.tabIn K x with
  | some (c, _) => c
  | none => 0
def tabsGood (K : PySem.W.Frag) (g : Addr → Option Obj) (xs : List Str) : Bool := xs.all (tabOk K g) && nodupA (xs.map (tabP K))
def fragT (n : Nat) (xs : List Str) (g : Addr → Option Obj) : PySem.W.Frag := dropK ((tabsOf xs (He.frG g (asBf g n ++ [sysModules]))).map (·.2)) (He.frG g (asBf g n ++ [sysModules]))
abbrev AlT : Type := AlM × Bool
def obTx (n : Nat) (cs : List Chk) (fn : List DfM) (fc : List DfC) (ts : List He.Tab) (xs : List Str) (g : Addr → Option Obj) : AlT := forceK (He.frG g (asBf g n ++ [sysModules])) fun K0 => forceK (dropK ((tabsOf xs K0).map (·.2)) K0) fun K => (obsX cs fn fc ts K, tabsGood K g xs)
def hookTx (n : Nat) (cs : List Chk) (fn : List DfM) (fc : List DfC) (ts : List He.Tab) (xs : List Str) : PySem.W.Hook where
  α := AlT
  obs := fun s => (obsX cs fn fc ts (fragT n xs s.heap.get?), tabsGood (fragT n xs s.heap.get?) s.heap.get? xs)
  val := fun w => (valX fn fc ts w, true)
  says := fun w h => ∃ K : PySem.W.Frag, K.In h ∧ SaysX cs fn fc ts w K ∧ (∀ x ∈ xs, TabOkF K h x) ∧ (xs.map (tabP K)).Nodup
  of := fun w s e => by
    have X : (fragT n xs s.heap.get?).In s.heap := fun a o q => He.frG_in a o (dropK_some q).1
    have e2 : tabsGood (fragT n xs s.heap.get?) s.heap.get? xs = true := (Prod.mk.inj e).2
    unfold tabsGood at e2
    rw [Bool.and_eq_true] at e2
    exact ⟨_, X, (Prod.mk.inj e).1, fun x hx => tabOk_ok X (List.all_eq_true.mp e2.1 x hx), nodupA_ok e2.2⟩
  keeps := fun _ _ _ ⟨K, hK, c, t, nd⟩ k => ⟨K, PySem.W.Frag.In.keeps hK k, c, fun x hx => by
    obtain ⟨c, P, q1, q2, q3, q4⟩ := t x hx
    exact ⟨c, P, q1, q2.keeps k, q3, k _ _ q4⟩, nd⟩
theorem obTx_eq {n : Nat} {cs : List Chk} {fn : List DfM} {fc : List DfC} {ts : List He.Tab} {xs : List Str} {g : Addr → Option Obj} {s : Shared} (h : ∀ a, g a = s.heap.get? a) : obTx n cs fn fc ts xs g = (hookTx n cs fn fc ts xs).obs s := by
  have e : g = s.heap.get? := funext h
  rw [e]
  unfold obTx
  rw [forceK_eq, forceK_eq]
  rfl
/-! ### the tables of a law's defs -/
def lamQ (x : Str) : Str := x ++ ".<locals>." ++ "<lambda>"
/-- all of them -/
def tabW (xs : List Str) (K : PySem.W.Frag) : List (Addr × Str) := xs.map fun x => (tabP K x, lamQ x)
def tabCs (xs : List Str) (K : PySem.W.Frag) : List (Addr × Addr) := xs.map fun x => (tabC K x, tabP K x)
theorem tabCs_ok {xs : List Str} {K : PySem.W.Frag} {h : Heap} (t : ∀ x ∈ xs, TabOkF K h x) : (∀ p ∈ tabCs xs K, h.get? p.2 = some tab0) ∧ (∀ p ∈ tabCs xs K, K.lookup p.2 = none) ∧ ∀ p ∈ tabCs xs K, PySem.W.CodeHd h p.1 p.2 := by
  have key : ∀ x ∈ xs, PySem.W.CodeHd h (tabC K x) (tabP K x) ∧ K.lookup (tabP K x) = none ∧ h.get? (tabP K x) = some tab0 := fun x hx => by
    obtain ⟨c, P, q1, q2, q3, q4⟩ := t x hx
    unfold tabC tabP
    rw [q1]
    exact ⟨q2, q3, q4⟩
  refine ⟨fun p hp => ?_, fun p hp => ?_, fun p hp => ?_⟩ <;> obtain ⟨x, hx, rfl⟩ := List.mem_map.mp hp
  · exact (key x hx).2.2
  · exact (key x hx).2.1
  · exact (key x hx).1
/-- what the making of a lambda in the def x asks -/
structure TabX (K : PySem.W.Frag) (base : Heap) (mg : Str → Option Value) (T : List (Addr × Str)) (x : Str) (c P : Addr) : Prop where
  code : ∀ f, mg x = some (.ref f) → codeOf K f = some c
  tab : TabB base mg c P
  mem : (P, lamQ x) ∈ T
  uni : ∀ p ∈ T, p.1 = P → p.2 = lamQ x
theorem tabW_in (xs : List Str) (K : PySem.W.Frag) : ∀ p ∈ tabW xs K, p.1 ∈ (tabCs xs K).map (·.2) := fun p hp => by
  obtain ⟨x, hx, rfl⟩ := List.mem_map.mp hp
  exact List.mem_map.mpr ⟨(tabC K x, tabP K x), List.mem_map.mpr ⟨x, hx, rfl⟩, rfl⟩
theorem tabX_of {xs : List Str} {K : PySem.W.Frag} {h base : Heap} {mg : Str → Option Value} (X : K.In h) (G : h.Ns mainGlobals mg) (t : ∀ x ∈ xs, TabOkF K h x) (nd : (xs.map (tabP K)).Nodup) (tb : ∀ p ∈ tabCs xs K, TabB base mg p.1 p.2) : ∀ x ∈ xs, ∃ c P, TabX K base mg (tabW xs K) x c P := fun x hx => by
  obtain ⟨c, P, q1, q2, q3, q4⟩ := t x hx
  have eP : tabP K x = P := by unfold tabP; rw [q1]
  have eC : tabC K x = c := by unfold tabC; rw [q1]
  refine ⟨c, P, fun f hf => ?_, ?_, ?_, fun p hp e => ?_⟩
  · unfold PySem.W.tabIn at q1
    split at q1
    · rename_i f' e1
      have e2 := PySem.W.mg_of X G e1
      rw [hf] at e2
      cases e2
      split at q1
      · rename_i fd _ e3
        unfold codeOf
        rw [e3]
        split at q1
        · rename_i c' e4
          have ec : c' = c := by
            split at q1
            · split at q1
              · cases q1
                rfl
              · cases q1
            · cases q1
          show codeV fd.code = some c
          rw [e4, ec]
          rfl
        · cases q1
      · cases q1
    · cases q1
  · have := tb (tabC K x, tabP K x) (List.mem_map.mpr ⟨x, hx, rfl⟩)
    rw [eC, eP] at this
    exact this
  · exact List.mem_map.mpr ⟨x, hx, by rw [eP]⟩
  · obtain ⟨y, hy, rfl⟩ := List.mem_map.mp hp
    have e : tabP K y = tabP K x := e.trans eP.symm
    have : y = x := by
      clear tb t q1 q2 q3 q4 eP eC hp
      induction xs with
      | nil => cases hx
      | cons z r ih =>
        rw [List.map_cons, List.nodup_cons] at nd
        rcases List.mem_cons.mp hx with rfl | hx' <;> rcases List.mem_cons.mp hy with rfl | hy'
        · rfl
        · exact absurd (List.mem_map.mpr ⟨y, hy', e⟩) nd.1
        · exact absurd (List.mem_map.mpr ⟨x, hx', e.symm⟩) nd.1
        · exact ih nd.2 hx' hy'
    rw [this]
end PM

/-! the head's look: which error class is caught by which -/
namespace PM
open PySem PySem.Spec PyProof.Rows L2
/-! ### the head's look -/
def exmsB (xn : List (Nat × Str)) : Chk := fun K => xn.all fun p => xn.all fun q => obB (PySem.W.exmOne K (.ref (He.ga K p.2)) (.ref (He.ga K q.2))) (some (p.1 == q.1))
def AllC (cl : Nat → Addr) (g : Str → Addr) : List (Nat × Str) → Prop
  | [] => True
  | p :: r => cl p.1 = g p.2 ∧ AllC cl g r
theorem AllC.at {cl : Nat → Addr} {g : Str → Addr} : ∀ {l : List (Nat × Str)}, AllC cl g l → ∀ p ∈ l, cl p.1 = g p.2
  | [], _, p, h => by cases h
  | q :: r, ⟨h1, h2⟩, p, h => by
    rcases List.mem_cons.mp h with rfl | h
    · exact h1
    · exact AllC.at h2 p h
theorem exmsB_ok {K : PySem.W.Frag} {xn : List (Nat × Str)} {cl : Nat → Addr} (h : exmsB xn K = true) (hc : AllC cl (He.ga K) xn) : ∀ a ∈ xn.map (·.1), ∀ b ∈ xn.map (·.1), PySem.W.exmOne K (.ref (cl a)) (.ref (cl b)) = some (a == b) := by
  intro a ha b hb
  obtain ⟨p, hp, rfl⟩ := List.mem_map.mp ha
  obtain ⟨q, hq, rfl⟩ := List.mem_map.mp hb
  have e := List.all_eq_true.mp (List.all_eq_true.mp h p hp) q hq
  rw [hc.at p hp, hc.at q hq]
  simpa [obB] using e
end PM

namespace PM.G
open PySem PySem.Spec PyProof.Rows L2 PM
def top (i : Nat) : Stmt := PySem.Challenge.pw_seamsayings_k50_errors_of_tables.main.body.getD i (.Pass ⟨0, 0, 0, 0⟩)
def inCls (st : Stmt) (j : Nat) : Stmt := match st with
  | .ClassDef _ _ _ b _ _ _ _ _ _ _ => b.getD j (.Pass ⟨0, 0, 0, 0⟩)
  | _ => .Pass ⟨0, 0, 0, 0⟩
abbrev s_is_whole : Stmt := top 10
abbrev s_is_integer : Stmt := top 11
abbrev s_is_state : Stmt := top 44
abbrev s_is_square : Stmt := top 46
abbrev s_are_states : Stmt := top 45
abbrev s_are_right : Stmt := top 47
abbrev s_Table_uinitu : Stmt := inCls (top 48) 1
abbrev s_l_dice : Stmt := top 58
abbrev s_l_roll : Stmt := top 59
abbrev s_l_pick : Stmt := top 60
abbrev s_l_spoilt : Stmt := top 62
abbrev s_l_met : Stmt := top 61
abbrev s_l_parts_right : Stmt := top 63
abbrev s_Table_rows : Stmt := inCls (top 48) 4
abbrev s_Building_uinitu : Stmt := inCls (top 21) 1
abbrev s_Building_tie : Stmt := inCls (top 21) 2
abbrev s_require_building : Stmt := top 22
abbrev s_Building_parts : Stmt := inCls (top 21) 5
abbrev s_state_in : Stmt := top 54
abbrev s_Table_state_of : Stmt := inCls (top 48) 11
abbrev s_Table_accepts : Stmt := inCls (top 48) 12
abbrev s_table_by : Stmt := top 52
abbrev s_renumbered_parts : Stmt := top 30
abbrev s_five_of : Stmt := top 51
abbrev s_Table_renumbered : Stmt := inCls (top 48) 13
abbrev s_Table_with_accepted : Stmt := inCls (top 48) 14
abbrev s_require_table : Stmt := top 49
abbrev s_results_of : Stmt := top 28
abbrev s_met_pairs : Stmt := top 35
abbrev s_is_kept : Stmt := top 36
abbrev s_joined_parts : Stmt := top 37
abbrev s_misread : Stmt := top 55
abbrev s_Table_ulenu : Stmt := inCls (top 48) 18
abbrev s_is_closed_set : Stmt := top 56
abbrev s_l_calls_right : Stmt := top 64
abbrev s_lawX : Stmt := top 65
def fns0 : List DfM := [⟨gloAt "is_whole", "is_whole", "is_whole", s_is_whole⟩,
  ⟨gloAt "is_integer", "is_integer", "is_integer", s_is_integer⟩,
  ⟨gloAt "is_state", "is_state", "is_state", s_is_state⟩,
  ⟨gloAt "is_square", "is_square", "is_square", s_is_square⟩,
  ⟨gloAt "are_states", "are_states", "are_states", s_are_states⟩,
  ⟨gloAt "are_right", "are_right", "are_right", s_are_right⟩,
  ⟨metAt "Table" "__init__", "__init__", "Table.__init__", s_Table_uinitu⟩,
  ⟨gloAt "_law_dice", "_law_dice", "_law_dice", s_l_dice⟩,
  ⟨gloAt "_law_roll", "_law_roll", "_law_roll", s_l_roll⟩,
  ⟨gloAt "_law_pick", "_law_pick", "_law_pick", s_l_pick⟩,
  ⟨gloAt "_law_spoilt", "_law_spoilt", "_law_spoilt", s_l_spoilt⟩,
  ⟨gloAt "_law_met", "_law_met", "_law_met", s_l_met⟩,
  ⟨gloAt "_law_parts_right", "_law_parts_right", "_law_parts_right", s_l_parts_right⟩,
  ⟨propAt "Table" "rows", "rows", "Table.rows", s_Table_rows⟩,
  ⟨metAt "Building" "__init__", "__init__", "Building.__init__", s_Building_uinitu⟩,
  ⟨cmAt "Building" "tie", "tie", "Building.tie", s_Building_tie⟩,
  ⟨gloAt "require_building", "require_building", "require_building", s_require_building⟩,
  ⟨propAt "Building" "parts", "parts", "Building.parts", s_Building_parts⟩,
  ⟨gloAt "state_in", "state_in", "state_in", s_state_in⟩,
  ⟨metAt "Table" "state_of", "state_of", "Table.state_of", s_Table_state_of⟩,
  ⟨metAt "Table" "accepts", "accepts", "Table.accepts", s_Table_accepts⟩,
  ⟨gloAt "table_by", "table_by", "table_by", s_table_by⟩,
  ⟨gloAt "renumbered_parts", "renumbered_parts", "renumbered_parts", s_renumbered_parts⟩,
  ⟨gloAt "five_of", "five_of", "five_of", s_five_of⟩,
  ⟨metAt "Table" "renumbered", "renumbered", "Table.renumbered", s_Table_renumbered⟩,
  ⟨metAt "Table" "with_accepted", "with_accepted", "Table.with_accepted", s_Table_with_accepted⟩,
  ⟨gloAt "require_table", "require_table", "require_table", s_require_table⟩,
  ⟨gloAt "results_of", "results_of", "results_of", s_results_of⟩,
  ⟨gloAt "met_pairs", "met_pairs", "met_pairs", s_met_pairs⟩,
  ⟨gloAt "is_kept", "is_kept", "is_kept", s_is_kept⟩]
def fns1 : List DfM := [⟨gloAt "joined_parts", "joined_parts", "joined_parts", s_joined_parts⟩,
  ⟨gloAt "misread", "misread", "misread", s_misread⟩,
  ⟨metAt "Table" "__len__", "__len__", "Table.__len__", s_Table_ulenu⟩,
  ⟨gloAt "is_closed_set", "is_closed_set", "is_closed_set", s_is_closed_set⟩,
  ⟨gloAt "_law_calls_right", "_law_calls_right", "_law_calls_right", s_l_calls_right⟩,
  ⟨gloAt "law", "law", "law", s_lawX⟩]
def fns : List DfM := fns0 ++ fns1
def tabs : List He.Tab := [(gloAt "LOST", ["row", "side"]), (gloAt "SIGNS", ["row", "side"])]
def names0 : List PySem.Str := ["_wall",
  "SeamError",
  "InvalidBuilding",
  "InvalidPath",
  "InvalidTable",
  "InvalidOperation",
  "TooMany",
  "GREAT",
  "is_whole",
  "is_integer",
  "MAX_LEAVES",
  "TIE",
  "GAP",
  "ROW",
  "SIDE",
  "SIGNS",
  "LOST",
  "require_leaves",
  "Building",
  "require_building",
  "joined_building",
  "part_at",
  "BOTH",
  "SOME",
  "results_of",
  "met_states",
  "renumbered_parts",
  "signs_of",
  "marked_anew",
  "state_classes"]
def names1 : List PySem.Str := ["least_parts",
  "met_pairs",
  "is_kept",
  "joined_parts",
  "is_less",
  "least_waiting",
  "joined_with",
  "least_found",
  "MAX_STATES",
  "is_state",
  "are_states",
  "is_square",
  "are_right",
  "Table",
  "require_table",
  "require_operand",
  "five_of",
  "table_by",
  "few_joined",
  "state_in",
  "misread",
  "is_closed_set",
  "_law_dice",
  "_law_roll",
  "_law_pick",
  "_law_met",
  "_law_spoilt",
  "_law_parts_right",
  "_law_calls_right"]
def names : List PySem.Str := names0 ++ names1
abbrev R : PySem.W.OpenRow := PySem.W.OpenLaw.row PySem.Challenge.rw_seamsayings_k50_errors_of_tables
abbrev si_TooMany : Stmt := inCls (top 7) 0
def sb_TooMany : SupSt := (supOf (defBody si_TooMany)).getD ⟨"", "", "", "", 0, ⟨0, 0, 0, 0⟩, ⟨0, 0, 0, 0⟩, ⟨0, 0, 0, 0⟩, ⟨0, 0, 0, 0⟩, ⟨0, 0, 0, 0⟩, ⟨0, 0, 0, 0⟩, ⟨0, 0, 0, 0⟩, ⟨0, 0, 0, 0⟩, ⟨0, 0, 0, 0⟩, ⟨0, 0, 0, 0⟩⟩
def fcs : List DfC := [⟨metAt "TooMany" "__init__", "__init__", "TooMany" ++ ".__init__", si_TooMany⟩]
def cs0 : List Chk := [sclsB "Building",
  sclsB "Table",
  sisiB "Building",
  sisiB "Table",
  freeB "abs",
  freeB "all",
  freeB "bool",
  freeB "enumerate",
  freeB "int",
  freeB "isinstance",
  freeB "len",
  freeB "list",
  freeB "max",
  freeB "min",
  freeB "range",
  freeB "repr",
  freeB "set",
  freeB "sorted",
  freeB "tuple",
  freeB "zip",
  intB "GREAT" 1000000000000000000000000000000000000000000000000000000000000,
  intB "MAX_LEAVES" 60,
  intB "MAX_STATES" 400,
  strB "BOTH" "both",
  strB "ROW" "row",
  strB "SOME" "some",
  strB "TIE" "tie",
  gloB "LOST",
  valB "LOST" "row" (.int 1),
  valB "LOST" "side" (.int 2)]
def cs1 : List Chk := [gloB "SIGNS",
  valB "SIGNS" "row" (.str " + "),
  valB "SIGNS" "side" (.str " | "),
  gloB "Building",
  gloB "InvalidBuilding",
  gloB "InvalidOperation",
  gloB "InvalidTable",
  gloB "Table",
  gloB "TooMany",
  freeB "super",
  clkB "TooMany" "limit",
  exmsB [(3, "InvalidTable"), (4, "InvalidBuilding"), (5, "InvalidOperation")],
  sysB,
  err0B "InvalidTable" "ValueError.__new__" [.type "ValueError", .type "Exception", .type "BaseException", .type "object"],
  err0B "InvalidBuilding" "ValueError.__new__" [.type "ValueError", .type "Exception", .type "BaseException", .type "object"],
  err0B "InvalidOperation" "ValueError.__new__" [.type "ValueError", .type "Exception", .type "BaseException", .type "object"],
  kitB (.inl "NoneType") (.inr "Building") false,
  kitB (.inl "bool") (.inr "Building") false,
  kitB (.inl "int") (.inr "Building") false,
  kitB (.inl "str") (.inr "Building") false,
  kitB (.inl "tuple") (.inr "Building") false,
  kitB (.inl "list") (.inr "Building") false,
  kitB (.inl "dict") (.inr "Building") false,
  kitB (.inr "Building") (.inr "Building") true,
  kitB (.inr "Table") (.inr "Building") false,
  kitB (.inl "NoneType") (.inr "Table") false,
  kitB (.inl "bool") (.inr "Table") false,
  kitB (.inl "int") (.inr "Table") false,
  kitB (.inl "str") (.inr "Table") false,
  kitB (.inl "tuple") (.inr "Table") false]
def cs2 : List Chk := [kitB (.inl "list") (.inr "Table") false,
  kitB (.inl "dict") (.inr "Table") false,
  kitB (.inr "Building") (.inr "Table") false,
  kitB (.inr "Table") (.inr "Table") true,
  kitB (.inl "NoneType") (.inl "bool") false,
  kitB (.inl "bool") (.inl "bool") true,
  kitB (.inl "int") (.inl "bool") false,
  kitB (.inl "str") (.inl "bool") false,
  kitB (.inl "tuple") (.inl "bool") false,
  kitB (.inl "list") (.inl "bool") false,
  kitB (.inl "dict") (.inl "bool") false,
  kitB (.inr "Building") (.inl "bool") false,
  kitB (.inr "Table") (.inl "bool") false,
  kitB (.inl "NoneType") (.inl "int") false,
  kitB (.inl "bool") (.inl "int") true,
  kitB (.inl "int") (.inl "int") true,
  kitB (.inl "str") (.inl "int") false,
  kitB (.inl "tuple") (.inl "int") false,
  kitB (.inl "list") (.inl "int") false,
  kitB (.inl "dict") (.inl "int") false,
  kitB (.inr "Building") (.inl "int") false,
  kitB (.inr "Table") (.inl "int") false,
  kitB (.inl "NoneType") (.inl "tuple") false,
  kitB (.inl "bool") (.inl "tuple") false,
  kitB (.inl "int") (.inl "tuple") false,
  kitB (.inl "str") (.inl "tuple") false,
  kitB (.inl "tuple") (.inl "tuple") true,
  kitB (.inl "list") (.inl "tuple") false,
  kitB (.inl "dict") (.inl "tuple") false,
  kitB (.inr "Building") (.inl "tuple") false]
def cs3 : List Chk := [kitB (.inr "Table") (.inl "tuple") false,
  slotB "Table" "own_accepted" 0,
  slotB "Table" "own_gap" 1,
  slotB "Building" "own_leaves" 0,
  slotB "Building" "own_many" 1,
  slotB "Building" "own_parts" 2,
  slotB "Table" "own_rows" 2,
  slotB "Table" "own_sides" 3,
  slotB "Building" "own_size" 3,
  slotB "Building" "own_text" 4,
  slotB "Table" "own_tie" 4,
  slotB "Building" "word" 5,
  gloB "is_whole",
  gloB "is_integer",
  gloB "is_state",
  gloB "is_square",
  gloB "are_states",
  gloB "are_right",
  mkB "Table",
  gloB "_law_dice",
  gloB "_law_roll",
  gloB "_law_pick",
  gloB "_law_spoilt",
  gloB "_law_met",
  gloB "_law_parts_right",
  propB "Table" "rows",
  mkB "Building",
  cmB "Building" "tie",
  gloB "require_building",
  propB "Building" "parts"]
def cs4 : List Chk := [gloB "state_in",
  methB "Table" "state_of",
  methB "Table" "accepts",
  gloB "table_by",
  gloB "renumbered_parts",
  gloB "five_of",
  methB "Table" "renumbered",
  methB "Table" "with_accepted",
  gloB "require_table",
  gloB "results_of",
  gloB "met_pairs",
  gloB "is_kept",
  gloB "joined_parts",
  gloB "misread",
  dunB "Table" "__len__",
  gloB "is_closed_set",
  gloB "_law_calls_right",
  gloB "law",
  errB "TooMany" "limit" "OverflowError" "OverflowError.__init__" "OverflowError.__new__" [.type "OverflowError", .type "ArithmeticError", .type "Exception", .type "BaseException", .type "object"] PySem.Challenge.rw_seamsayings_k50_errors_of_tables.prog.main.file]
def cs : List Chk := cs0 ++ cs1 ++ cs2 ++ cs3 ++ cs4
def lamN : List Str := ["_law_parts_right", "_law_calls_right", "law"]
abbrev hk : PySem.W.Hook := hookTx 5 cs fns fcs tabs lamN
def ob (s : PySem.W.SharedT) : AlT := obTx 5 cs fns fcs tabs lamN (HandSHeadRun.getT s)
theorem ob_eq (s : PySem.W.SharedT) : ob s = hk.obs s.abs := obTx_eq (HandSHeadRun.getT_eq s)
set_option maxHeartbeats 0 in
theorem runF (w : World) : HandSHeadRun.RunEq R (PySem.W.view R.prog [65]) hk ob 8000 names (w.withFollow "special-get-raises" false) := by
  intro os
  kernel_rfl
set_option maxHeartbeats 0 in
theorem runT (w : World) : HandSHeadRun.RunEq R (PySem.W.view R.prog [65]) hk ob 8000 names (w.withFollow "special-get-raises" true) := by
  intro os
  kernel_rfl
theorem run (w : World) : HandSHeadRun.RunEq R (PySem.W.view R.prog [65]) hk ob 8000 names w := PySem.W.byRow2 "special-get-raises" (P := fun w => HandSHeadRun.RunEq R (PySem.W.view R.prog [65]) hk ob 8000 names w) runF runT w
end PM.G

/-! PMMulT: a tuple once, or not at all. -/
namespace PM
open PySem PySem.Spec PyProof.Rows L2
section
variable {X : Cx}
end
section
variable {w : Wd} {W : WX} {X : Cx} {pos : Pos} {a b : Expr} {ma mb : ME}
end
end PM

/-! f(y, ..), f a def below which tables grow, y a list or dict that f may change -/
namespace PM
open PySem PySem.Spec PyProof.Rows L2
section
variable {w : Wd} {W : WX} {f : Fn} {k : Nat} {ta : TA} {ma : MA}
/-- a thing is changed, and tables may have grown -/
theorem Rel.mutT {F : Fr} {O O' : Av} {ρ : En} {σ : L2.St} {H H' : Hp} {i : Nat} {s : Sl} {m m' : Mu} {a : Addr} (R : Rel F O ρ σ H) (e : ρ[i]? = some s) (g : s.get = some m) (ea : σ[i]? = some (some (.ref a))) (oa : O a) (ma : MuAt F.w O H a m)
    (hk : ∀ b o, b ≠ a → (∀ p ∈ F.w.T, p.1 ≠ b) → H b = some o → H' b = some o) (hsub : ∀ b, O' b → O b ∨ H b = none) (hO : ∀ b, O b → O' b) (dom : ∀ b, H b ≠ none → H' b ≠ none) (hdm : ∀ b, O' b → H' b ≠ none) (ht : ∀ p ∈ F.w.T, TabZ O' H' p.1 p.2) (hm : MuAt F.w O' H' a m') :
    Rel F O' (ρ.set i (s.put m')) σ H' ∧ Step O H O' H' := by
  have tO := R.tabO
  have nT : ∀ p ∈ F.w.T, p.1 ≠ a := R.tab.ne ma.ntab
  have hx : ∃ Hm : Hp, ∀ b, Hm b = if b = a then H a else H' b := ⟨fun b => if b = a then H a else H' b, fun _ => rfl⟩
  obtain ⟨Hm, hHm⟩ := hx
  have at_ : Hm a = H a := by rw [hHm, if_pos rfl]
  have off : ∀ b, b ≠ a → Hm b = H' b := fun b n => by rw [hHm, if_neg n]
  have kO : ∀ b o, ¬ O b → H b = some o → Hm b = some o := fun b o n z => by
    have nb : b ≠ a := fun z => n (z ▸ oa)
    rw [off b nb]
    exact hk b o nb (fun p hp z => n (z ▸ (tO p hp).1)) z
  have domM : ∀ b, H b ≠ none → Hm b ≠ none := fun b z => by
    by_cases hb : b = a
    · rw [hb, at_]
      exact ma.some
    · rw [off b hb]
      exact dom b z
  have st1 : Step O H O' Hm := ⟨hsub, kO, domM⟩
  have tM : ∀ p ∈ F.w.T, TabZ O' Hm p.1 p.2 := fun p hp => by
    obtain ⟨ps, h1, h2, h3⟩ := ht p hp
    refine ⟨ps, by rw [off _ (nT p hp)]; exact h1, h2, fun pos cv hc => ?_⟩
    obtain ⟨c, e1, e2, e3⟩ := h3 pos cv hc
    exact ⟨c, e1, e2, by rw [off c (fun z => e2 (z ▸ hO _ oa))]; exact e3⟩
  have R1 : Rel F O' ρ σ Hm := R.stepT st1 hO (fun b q => by
    by_cases hb : b = a
    · rw [hb, at_]
      exact ma.some
    · rw [off b hb]
      exact hdm b q) (fun b o n z => by
    by_cases hb : b = a
    · rw [hb, at_, ← hb]
      exact z
    · rw [off b hb]
      exact hk b o hb n z) tM
  have oa' : O' a := hO a oa
  have st2 : Step O' Hm O' H' := ⟨fun _ q => .inl q, fun b o n z => by rw [← off b (fun z => n (z ▸ oa'))]; exact z, fun b z => by
    by_cases hb : b = a
    · rw [hb]
      exact hdm a oa'
    · rw [← off b hb]
      exact z⟩
  exact ⟨R1.mutG e g ea (fun b o n z => by rw [← off b n]; exact z) st2 (fun _ q => q) hdm hm, st1.trans st2⟩
theorem sim_callDT {E : XK} {i : Nat} (ha : SimA w W ta ma) (hn : ∀ (ρ ρ1 : En) (xs : List D), ma ρ = .ok xs ρ1 → xs.length + 1 = k) : Sim w W (tCall (spT w k f) [] E (tCons (tVar i) ta)) (mCallD f i ma) := fun F O ρ σ H Q hw R hh => by
  subst hw
  unfold mCallD at hh
  cases q0 : muOf i ρ with
  | none => rw [q0] at hh; exact hh.elim
  | some sm =>
    rw [q0] at hh
    obtain ⟨e0, g0⟩ := muOf_some (s := sm.1) (m := sm.2) q0
    obtain ⟨a, ea, oa, _⟩ := R.muAt e0 g0
    refine ⟨.ref a, ea, ?_⟩
    have key : Hold F W O σ H (RV F σ H) Q ((ma ρ).bind fun xs ρ1 => if xs.length + 1 = k then (match muOf i ρ1 with
      | none => .stuck
      | some (s, m) => match f (some m) xs with
        | .ret x (some m') => .ok x (ρ1.set i (s.put m'))
        | _ => .stuck) else .stuck) := by
      cases q : ma ρ with
      | ok xs ρ1 =>
        rw [q] at hh
        show Hold F W O σ H (RV F σ H) Q (if xs.length + 1 = k then _ else _)
        rw [if_pos (hn ρ ρ1 xs q)]
        exact hh
      | exc x ρ1 => rw [q] at hh; exact hh
      | stuck => rw [q] at hh; exact hh
    refine ha.bind rfl R key fun xs vs ρ1 O1 H1 st1 R1 rs h1 => ?_
    split at h1
    · rename_i hk
      split at h1
      · exact h1.elim
      · rename_i s m q1
        obtain ⟨e1, g1⟩ := muOf_some q1
        obtain ⟨a', ea', oa', ma'⟩ := R1.muAt e1 g1
        rw [ea] at ea'
        cases ea'
        show spT _ _ _ ((.ref a :: vs) ++ []) H1 Q E
        rw [List.append_nil]
        have tO := R1.tabO
        refine ⟨O1, some m, xs, R1.dom, by simp [rs.length, hk], tO, ⟨a, vs, rfl, oa', ma', rs⟩, ?_⟩
        split at h1
        · rename_i z m' hz
          rw [hz]
          refine ⟨rfl, fun H' v sy rf => ?_⟩
          have hk : ∀ b o, b ≠ a → (∀ p ∈ F.w.T, p.1 ≠ b) → H1 b = some o → H' b = some o := fun b o n n2 e => sy.kept b o (fun q => n (by have := q.2; simp at this; exact this.symm)) n2 e
          obtain ⟨d, b⟩ := z
          cases b with
          | false =>
            obtain ⟨r1, a2, ha2, r2⟩ := rf
            cases (show some (V.ref a) = some (.ref a2) from ha2)
            obtain ⟨R2, st2⟩ := R1.mutT e1 g1 ea oa' ma' hk (fun _ q => .inl q) (fun _ q => q) sy.dom (fun b q => sy.dom b (R1.dom b q)) sy.tab r2
            exact h1 O1 H' v (st1.trans st2) R2 r1
          | true =>
            obtain ⟨c, m2, e2, e3, e4, e5, ⟨a2, ha2, r2⟩, tb⟩ := rf
            cases (show some (V.ref a) = some (.ref a2) from ha2)
            obtain ⟨R2, st2⟩ := R1.mutT e1 g1 ea oa' ma' hk (fun b q => q.elim .inl fun e => .inr (by rw [e]; exact e3)) (fun _ q => .inl q) sy.dom (fun b q => q.elim (fun q => sy.dom b (R1.dom b q)) fun z => by rw [z]; exact e5.some) tb r2
            exact h1 (ins O1 c) H' v (st1.trans st2) R2 ⟨c, m2, e2, st1.none_back e3, .inr rfl, e4, e5, (R1.apart e3).put e1 (mu_of_get g1)⟩
        · exact h1.elim
    · exact h1.elim
end
section
variable {w : Wd} {W : WX} {X : Cx} {pos p p' : Pos} {x y : Str} {es : List Expr} {ma : MA} {f : Fn} {n j : Nat}
theorem pm_callDT (i : Nat) (F : DefT X.prog X.w X.K X.mg X.base w x (n + 1) j f) (hgu : X.A.guards = some []) (hr : Room j X.A) (hg : Gl X x) (ha : PMA X w W es ma) (hn : Len ma n) (hN : X.N[i]? = some y := by rfl) (hv : Vis X.env.scope y := by first | exact Or.inl rfl | exact Or.inr (Or.inl rfl) | exact Or.inr (Or.inr rfl)) (hd : (x == ("__debug__" : Str)) = false := by decide)
    (hdy : (y == ("__debug__" : Str)) = false := by decide) (hcd : (y == ("__classdict__" : Str)) = false := by decide) (he : starEach (.Name y p' :: es) X.env = (false, eval (.Name y p') X.env) :: starEach es X.env := by rfl) (hpl : (backTo pos (starEach es X.env)).any (·.1) = false := by rfl) :
    PM X w W (.Call (.Name x p) (.Name y p' :: es) [] pos) (mCallD f i ma) := by
  obtain ⟨a, fd, ps, hl, F, hm, hk, hb⟩ := F
  obtain ⟨ta, pa, sa⟩ := ha
  exact ⟨_, pe_callG F hgu hr hg hm hk hb pass0 (pa_cons (pe_var hN hv hdy hcd) pa he) hd he hpl, sim_callDT sa fun ρ ρ1 xs q => by rw [hn ρ ρ1 xs q]⟩
end
end PM

/-! {k: v for x in it if t} -/
namespace PM
open PySem PySem.Spec PyProof.Rows L2
/-- as lc_it, for a dict -/
theorem dc_it {J : It} {n : Nat} {G : Hp → Prop} {Y : Nat → Hp → V → Hp → Prop} (w : Walk J n G Y) {g : TG} {tt : TT} {tk tv : TE} {vs : List Nat} {σ : L2.St} {H1 : Hp} {D : Addr} {Qd : Hp → Prop} (Pv : Nat → Hp → Prop) (h0 : Pv 0 (upd H1 D (.dK []))) (hG : ∀ i H, i ≤ n → Pv i H → G H)
    (hs : ∀ i x H H', i < n → Pv i H → Y i H x H' → g x (wipe σ vs) H' fun σ2 H2 => wipe σ2 vs = wipe σ vs ∧ tt σ2 H2 fun b H3 =>
      if b = true then tk σ2 H3 fun y H4 => tv σ2 H4 fun z H5 => ∃ kvs k, y = kV k ∧ H5 D = some (.dK kvs) ∧ kvs.length < sizeLine ∧ Pv (i + 1) (upd H5 D (.dK (putK kvs k z))) else Pv (i + 1) H3) (hd : ∀ H, Pv n H → Qd H) :
    ∃ W : Nat → Nat → Hp → Prop, (∃ m, W 0 m (upd H1 D (.dK []))) ∧ ∀ i m H, W i m H →
      (J.stop i H ∧ Qd H) ∨ (J.go i H ∧ ∃ Nx : Hp → Prop, (∀ H', Nx H' → ∃ m', m' < m ∧ W (i + 1) m' H') ∧ ∀ x H', J.yld i H x H' → g x (wipe σ vs) H' fun σ2 H2 => wipe σ2 vs = wipe σ vs ∧ tt σ2 H2 fun b H3 =>
        if b = true then tk σ2 H3 fun y H4 => tv σ2 H4 fun z H5 => ∃ kvs k, y = kV k ∧ H5 D = some (.dK kvs) ∧ kvs.length < sizeLine ∧ Nx (upd H5 D (.dK (putK kvs k z))) else Nx H3) := by
  refine ⟨fun i m H => m = n - i ∧ i ≤ n ∧ Pv i H, ⟨n, by simp, Nat.zero_le _, h0⟩, ?_⟩
  rintro i m H ⟨rfl, hi, p⟩
  have q := hG i H hi p
  by_cases hlt : i < n
  · exact .inr ⟨w.goes i H hlt q, Pv (i + 1), fun H' p' => ⟨n - (i + 1), by omega, rfl, hlt, p'⟩, fun x H' y => hs i x H H' hlt p (w.yields i H x H' hlt q y)⟩
  · have e : i = n := by omega
    subst e
    exact .inl ⟨w.stops H q, hd H p⟩
def mDcLoop (g : MG) (vs : List Nat) (mt : MT) (mk mv : ME) : List D → List D → List D → En → Rs (List D × List D)
  | [], ks, es, ρ => .ok (ks, es) ρ
  | d :: ds, ks, es, ρ => match g d ρ with
    | none => .stuck
    | some ρ1 => match mt ρ1 with
      | .ok b ρ2 => if b = true then (match mk ρ2 with
          | .ok k ρ3 => (match mv ρ3 with
            | .ok y ρ4 => (match keyD k.1 with
              | some kk => if ks.length < sizeLine then mDcLoop g vs mt mk mv ds (putKs ks kk k.1) (putDs ks es kk y.1) (wipeE ρ4 vs) else .stuck
              | none => .stuck)
            | _ => .stuck)
          | _ => .stuck) else mDcLoop g vs mt mk mv ds ks es (wipeE ρ2 vs)
      | _ => .stuck
def mDc (mi : MI) (vs : List Nat) (g : MG) (mt : MT) (mk mv : ME) : ME := fun ρ => (mi ρ).bind fun ds ρ1 => (mDcLoop g vs mt mk mv ds [] [] (wipeE ρ1 vs)).bind fun q ρ2 => .ok (.dct q.1 q.2, true) (wipeE ρ2 vs)
theorem sim_dc {w : Wd} {W : WX} {wi : TI} {mi : MI} {gg : TG} {g : MG} {js vs : List Nat} {tt : TT} {mt : MT} {tk tv : TE} {mk mv : ME} (si : SimI w W wi mi) (sg : SimG w gg g js) (stt : SimT w W0 tt mt) (sk : Sim w W0 tk mk) (sv : Sim w W0 tv mv) (hj : ∀ j ∈ js, j ∈ vs) :
    Sim w W (tDc wi gg tt tk tv vs) (mDc mi vs g mt mk mv) := fun F O ρ σ H Q hw R hh => by
  refine simI_bind1 (fun k hk => si F O ρ σ H k hw R hk) hh fun ds J ρ1 O1 H1 st1 R1 io h1 => ?_
  intro Dl hD
  obtain ⟨G, Y, wk, hG, hY⟩ := io
  have hDe : F.He Dl = none := R1.freshE hD
  have hDb : ¬ F.B Dl := fun q => R1.bh Dl q hDe
  have hDi : ∀ i, ¬ F.Io i Dl := fun i q => hDb (R1.ib i Dl q)
  have g0 : Grow H1 (upd H1 Dl (.dK [])) := Grow.new hD
  have R2 : Rel F (ins O1 Dl) ρ1 σ (upd H1 Dl (.dK [])) := R1.guard g0 hD (by rw [upd_same]; simp)
  refine dc_it wk (fun i H' => ∃ (O' : Av) (ρ' : En) (ks es : List D) (kvs : List (Key × V)), Step O1 H1 O' H' ∧ Rel F O' ρ' (wipe σ vs) H' ∧ O' Dl ∧ Apart ρ' (wipe σ vs) Dl ∧ H' Dl = some (.dK kvs) ∧ keysD ks (kvs.map (·.1)) ∧ RepL F.w O' H' es (kvs.map (·.2)) ∧
      Hold F W O σ H (RV F σ H) Q ((mDcLoop g vs mt mk mv (ds.drop i) ks es ρ').bind fun q ρ2 => .ok (.dct q.1 q.2, true) (wipeE ρ2 vs))) ?_ ?_ ?_ ?_
  · exact ⟨ins O1 Dl, wipeE ρ1 vs, [], [], [], ins_step g0 hD, R2.wipe, .inr rfl, (R1.apart hD).slots fun j h => wipe_off h, upd_same, rfl, by simp only [List.map_nil, RepL], h1⟩
  · rintro i H' _ ⟨O', ρ', ks, es, kvs, st, _⟩
    exact hG O' H' st
  · rintro i x H' H'' hi ⟨O', ρ', ks, es, kvs, st, R', od, ap, hd, hks, ra, hl⟩ y
    obtain ⟨gr, d, ed, rd⟩ := hY i O' H' x H'' hi st R'.dom y
    rw [ed] at hl
    have R3 : Rel F O' ρ' (wipe σ vs) H'' := R'.grow gr
    have hd3 : H'' Dl = some (.dK kvs) := gr _ _ hd
    have ra3 : RepL F.w O' H'' es (kvs.map (·.2)) := RepL.step gr.step _ _ ra
    have st3 : Step O1 H1 O' H'' := st.trans gr.step
    have Rw : Rel (F.within ρ' (wipe σ vs) H'' Dl) O' ρ' (wipe σ vs) H'' := R3.within od ap
    have nw : ¬ ownAt ρ' (wipe σ vs) Dl := fun ⟨i, m, e1, e2⟩ => ap i _ e1 rfl e2
    have heD : (F.within ρ' (wipe σ vs) H'' Dl).He Dl ≠ none := by
      show heLess ρ' (wipe σ vs) H'' Dl ≠ none
      rw [heLess_not nw, hd3]
      simp
    unfold mDcLoop at hl
    cases q : g d ρ' with
    | none => simp only [q] at hl; exact hl.elim
    | some ρa =>
      simp only [q] at hl
      refine sg (F.within ρ' (wipe σ vs) H'' Dl) O' ρ' ρa (wipe σ vs) H'' x d _ hw Rw (hw ▸ rd) q fun σa Ra out => ?_
      have ew : wipe σa vs = wipe σ vs := (out vs hj).trans wipe_twice
      have hs : ∀ j, j ∉ vs → (wipe σ vs)[j]? = σa[j]? := fun j h => by rw [← ew, wipe_off h]
      have hlen : ∀ {ρx : En} {Ox : Av} {Hx : Hp}, Rel F Ox ρx σa Hx → ρx.length = (wipe σ vs).length := fun Rx => by rw [Rx.len, ← ew, wipe_length]
      refine ⟨ew, stt (F.within ρ' (wipe σ vs) H'' Dl) O' ρa σa H'' _ hw Ra ?_⟩
      cases q2 : mt ρa with
      | stuck => simp only [q2] at hl; exact hl
      | exc x ρb => simp only [q2] at hl; exact hl.elim
      | ok b ρb =>
        simp only [q2] at hl
        intro Ob Hb b' stb Rb eb
        have eb : b' = b := eb
        subst eb
        cases b' with
        | false =>
          refine iteF ?_
          obtain ⟨Rf, ob, hb⟩ := R3.without hd3 ap hDb Rb
          refine ⟨Ob, wipeE ρb vs, ks, es, kvs, st3.trans stb, Rf.slots (hlen Rf) hs, ob, (Rb.apartB heD hDi).slots hs, hb, hks, RepL.step stb _ _ ra3, ?_⟩
          exact hl
        | true =>
          rw [if_pos rfl] at hl
          refine iteT (sk (F.within ρ' (wipe σ vs) H'' Dl) Ob ρb σa Hb _ hw Rb ?_)
          cases q3 : mk ρb with
          | stuck => simp only [q3] at hl; exact hl
          | exc x ρc => simp only [q3] at hl; exact hl.elim
          | ok kv ρc =>
            simp only [q3] at hl
            intro Oc Hc vk stc Rc rk
            obtain ⟨O5, s5, R5, r5, _⟩ := VlAt.release stc Rc Rb.doh rk
            refine sv (F.within ρ' (wipe σ vs) H'' Dl) O5 ρc σa Hc _ hw R5 ?_
            cases q4 : mv ρc with
            | stuck => simp only [q4] at hl; exact hl
            | exc x ρd => simp only [q4] at hl; exact hl.elim
            | ok yv ρd =>
              simp only [q4] at hl
              intro Od Hd v std Rd rv
              obtain ⟨O6, s6, R6, r6, _⟩ := VlAt.release std Rd R5.doh rv
              obtain ⟨Rf, ob, hb⟩ := R3.without hd3 ap hDb R6
              have ap6 : Apart ρd σa Dl := R6.apartB heD hDi
              cases ek : keyD kv.1 with
              | none => simp only [ek] at hl; exact hl.elim
              | some kk =>
                simp only [ek] at hl
                split at hl
                · rename_i hz
                  have eu := key_rep ek r5
                  have st6 : Step O' H'' O6 Hd := (stb.trans s5).trans s6
                  have ra6 : RepL F.w O6 Hd es (kvs.map (·.2)) := RepL.step st6 _ _ ra3
                  have R7 : Rel F O6 ρd σa (upd Hd Dl (.dK (putK kvs kk v))) := Rf.updG ob ap6 hDe
                  have mst : Step O6 Hd O6 (upd Hd Dl (.dK (putK kvs kk v))) := mut_step ob
                  obtain ⟨p1, p2⟩ := put_rep hks ra6 ek (show Rep F.w O6 Hd yv.1 v from r6)
                  have hn := keysD_len hks
                  rw [List.length_map] at hn
                  exact ⟨kvs, kk, eu, hb, by rw [hn]; exact hz, O6, wipeE ρd vs, putKs ks kk kv.1, putDs ks es kk yv.1, putK kvs kk v, (st3.trans st6).trans mst, R7.slots (hlen R7) hs, ob, ap6.slots hs, upd_same, p1, RepL.step mst _ _ p2, hl⟩
                · exact hl.elim
  · rintro H' ⟨O', ρ', ks, es, kvs, st, R', od, ap, hd, hks, ra, hl⟩
    rw [List.drop_length] at hl
    have hl : Hold F W O σ H (RV F σ H) Q (.ok (.dct ks es, true) (wipeE ρ' vs)) := hl
    have back : ∀ j, j ∉ vs → σ[j]? = (wipe σ vs)[j]? := fun j h => (wipe_off h).symm
    exact hl O' H' (.ref Dl) (st1.trans st) (R'.slots (by rw [R'.len, wipe_length]) back) ⟨Dl, .dct ks es, rfl, st1.none_back hD, od, rfl, ⟨kvs, hd, hks, ra⟩, ap.slots back⟩
section
variable {w : Wd} {W : WX} {X : Cx} {pos : Pos} {kx vx tg iter : Expr} {ifs : List Expr} {scope : Scope} {own : List (Str × Nat)} {mi : MI} {g : MG} {js : List Nat} {mt : MT} {mk mv : ME}
theorem pm_dc (hc : X.calm = true) (hN : X.N.Nodup) (hi : PMI X w W tg iter mi) (ok : BlkOk X.N X.env.scope scope own) (hj : ∀ j ∈ js, j ∈ own.map (·.2))
    (hg : ∀ (s : Shared) (H : Hp) (C : Addr) (cl : List (Str × Addr)) (fp : List Addr), PMG (X.blk s H scope (compEnvC scope cl C X.env) fp) w tg g js) (ht : ∀ (s : Shared) (H : Hp) (C : Addr) (cl : List (Str × Addr)) (fp : List Addr), PMTs (X.blk s H scope (compEnvC scope cl C X.env) fp) w W0 ifs mt)
    (hk : ∀ (s : Shared) (H : Hp) (C : Addr) (cl : List (Str × Addr)) (fp : List Addr), PM (X.blk s H scope (compEnvC scope cl C X.env) fp) w W0 kx mk)
    (hv : ∀ (s : Shared) (H : Hp) (C : Addr) (cl : List (Str × Addr)) (fp : List Addr), PM (X.blk s H scope (compEnvC scope cl C X.env) fp) w W0 vx mv) (hs : ∀ x, foldedSetIterable iter X.env x = pure x := by intro _; rfl) :
    PM X w W (.DictComp kx vx [⟨tg, iter, ifs, 0⟩] scope pos) (mDc mi (own.map (·.2)) g mt mk mv) := by
  obtain ⟨wi, pi, si⟩ := hi
  exact ⟨_, pe_dc hc hN pi ok (fun s H C cl fp => (hg s H C cl fp).pe) (fun s H C cl fp => (ht s H C cl fp).pe) (fun s H C cl fp => (hk s H C cl fp).pe) (fun s H C cl fp => (hv s H C cl fp).pe) hs, sim_dc si simg_of simt_of sim_of sim_of hj⟩
end
/-! ### name = {k: v for ..}, the name a local -/
section
variable {X : Cx}
end
section
variable {w : Wd} {W : WX} {X : Cx} {pos py spos : Pos} {kx vx tg iter : Expr} {ifs : List Expr} {scope : Scope} {own : List (Str × Nat)} {mi : MI} {g : MG} {js : List Nat} {mt : MT} {mk mv : ME}
end
end PM

/-! sorted(xs), sorted(d) of whole numbers; str(i), bool(i) -/
namespace PM
open PySem PySem.Spec PyProof.Rows L2
def insI (x : Int) : List Int → List Int
  | [] => [x]
  | y :: ys => if x ≤ y then x :: y :: ys else y :: insI x ys
def srtI : List Int → List Int
  | [] => []
  | x :: xs => insI x (srtI xs)
theorem insI_perm (x : Int) : ∀ ys, (insI x ys).Perm (x :: ys)
  | [] => List.Perm.refl _
  | y :: ys => by
    unfold insI
    split
    · exact List.Perm.refl _
    · exact ((insI_perm x ys).cons y).trans (List.Perm.swap x y ys)
theorem srtI_perm : ∀ xs, (srtI xs).Perm xs
  | [] => List.Perm.refl _
  | x :: xs => (insI_perm x (srtI xs)).trans ((srtI_perm xs).cons x)
theorem insI_sorted (x : Int) : ∀ ys : List Int, ys.Pairwise (· ≤ ·) → (insI x ys).Pairwise (· ≤ ·)
  | [], _ => by simp [insI]
  | y :: ys, h => by
    obtain ⟨h1, h2⟩ := List.pairwise_cons.mp h
    unfold insI
    split
    · rename_i hx
      refine List.pairwise_cons.mpr ⟨fun z hz => ?_, h⟩
      rcases List.mem_cons.mp hz with rfl | hz
      · exact hx
      · exact Int.le_trans hx (h1 z hz)
    · rename_i hx
      refine List.pairwise_cons.mpr ⟨fun z hz => ?_, insI_sorted x ys h2⟩
      rcases List.mem_cons.mp ((insI_perm x ys).mem_iff.mp hz) with rfl | hz
      · omega
      · exact h1 z hz
theorem srtI_sorted : ∀ xs, (srtI xs).Pairwise (· ≤ ·)
  | [] => List.Pairwise.nil
  | x :: xs => insI_sorted x _ (srtI_sorted xs)
theorem sortedI_uniq : ∀ {a b : List Int}, a.Perm b → a.Pairwise (· ≤ ·) → b.Pairwise (· ≤ ·) → a = b
  | [], b, p, _, _ => List.Perm.nil_eq p
  | x :: a, [], p, _, _ => by cases p.length_eq
  | x :: a, y :: b, p, h, h' => by
    obtain ⟨h1, h2⟩ := List.pairwise_cons.mp h
    obtain ⟨h3, h4⟩ := List.pairwise_cons.mp h'
    have e : x = y := by
      have m1 : x ∈ y :: b := p.mem_iff.mp List.mem_cons_self
      have m2 : y ∈ x :: a := p.mem_iff.mpr List.mem_cons_self
      rcases List.mem_cons.mp m1 with e | m1
      · exact e
      · rcases List.mem_cons.mp m2 with e | m2
        · exact e.symm
        · exact Int.le_antisymm (h1 y m2) (h3 x m1)
    subst e
    rw [sortedI_uniq (List.Perm.cons_inv p) h2 h4]
theorem eq_srtI {ys l : List Int} (p : ys.Perm l) (h : ys.Pairwise (· ≤ ·)) : ys = srtI l := sortedI_uniq (p.trans (srtI_perm l).symm) h (srtI_sorted l)
def intsD : List D → Option (List Int)
  | [] => some []
  | .int x :: ds => (intsD ds).map (x :: ·)
  | _ :: _ => none
theorem intsD_rep {w : Wd} {O : Av} {H : Hp} : ∀ {ds : List D} {vs : List V} {zs : List Int}, intsD ds = some zs → RepL w O H ds vs → vs = zs.map V.int
  | [], vs, zs, h, r => by
    cases h
    simpa [RepL] using r
  | .int x :: ds, vs, zs, h, r => by
    simp only [intsD] at h
    cases q : intsD ds with
    | none => rw [q] at h; cases h
    | some ys =>
      rw [q] at h
      cases h
      simp only [RepL, Rep] at r
      obtain ⟨v, vs', rfl, rfl, r⟩ := r
      rw [intsD_rep q r]
      rfl
theorem repL_ints {w : Wd} {O : Av} {H : Hp} : ∀ zs : List Int, RepL w O H (zs.map D.int) (zs.map V.int)
  | [] => by simp [RepL]
  | z :: zs => by
    simp only [List.map_cons, RepL, Rep]
    exact ⟨_, _, rfl, rfl, repL_ints zs⟩
def sortID : D → Option Vl
  | .lst ds => (intsD ds).map fun ns => (.lst ((srtI ns).map .int), true)
  | _ => none
section
variable {w : Wd} {W : WX} {X : Cx} {pos p : Pos} {e : Expr} {mr : MA}
theorem pm_sortI (hK : w.K = X.K) (hg : Gl X "sorted") (hm : X.mg "sorted" = none) (ha : PMA X w W [e] mr) (he : starEach [e] X.env = (false, eval e X.env) :: starEach [] X.env := by rfl) : PM X w W (.Call (.Name "sorted" p) [e] [] pos) (mCall (one1 sortID) mr) :=
  pm_callB cr_sortedI (fun O H xs z vs Q dm e rs k => by
    obtain ⟨x, rfl, ez⟩ := one1_some e
    clear e
    obtain ⟨v, rfl, hv⟩ := repl1 rs
    unfold sortID at ez
    split at ez
    · rename_i ds
      cases q : intsD ds with
      | none => rw [q] at ez; cases ez
      | some zs =>
        rw [q] at ez
        cases ez
        simp only [Rep] at hv
        obtain ⟨a, vs, rfl, h1, h2⟩ := hv
        rw [intsD_rep q h2] at h1
        refine ⟨a, zs, rfl, hK ▸ sl_of_rep h1, fun ys p1 pm so hp => ?_⟩
        rw [eq_srtI pm so]
        exact k.newL (repL_ints _) hp
    · cases ez) hg hm (by decide +kernel) ha (by decide) (by decide) he
end
end PM

/-! sets of whole numbers: sorted(set(xs)), len(set(xs)) -/
namespace PM
open PySem PySem.Spec PyProof.Rows L2
section
variable {P : Program} {w : World} {A : Around} {E : Value → Shared → Prop} {s : Shared}
theorem call_setI_list {l : Addr} {items : Array Value} {xs : List Int} {Q : Value → Shared → Prop} (hh : A.handled = none) (hl : s.heap.IsList l items) (hi : IntsAre items.toList xs) (hn : xs.length + 1 < scanBound)
    (h : ∀ (h' : Heap) (tk c : Nat), SetR w h' s.heap.objs.size (fun j => decide (j ∈ xs)) c → (∀ b o, s.heap.get? b = some o → h'.get? b = some o) → Q (.ref s.heap.objs.size) { s with heap := h', toks := tk }) : wpAny (model P w) A (call (.type "set") [.ref l]) Q E s := by
  obtain ⟨c, tl, hmro⟩ := PySem.F.called_set.mro
  have hmade := PySem.F.called_set.made
  have hsub := PySem.F.called_set.sub
  refine wpAny_call (codeAny_of_tree (show wpAny _ _ (callAny (.type "set") _) _ _ _ from wpAny_pure ⟨Code.quiet_builtin _ (by decide +kernel), codeAny_builtin PySem.F.entry_type_call ?_⟩))
  rw [Around.under_plain (weight_type_call_type "set" [.ref l] []) rfl]
  have h1 := PySem.F.called_set.notType
  have h2 := PySem.F.called_set.canCreate
  have hct := PySem.F.typeCall_set_1 (.ref l)
  repeat (any_goals (first | assumption | wp_step))
  refine codeAny_mono (code_set_led1 (.ref l) (E := E) (Q₁ := fun obj s₁ => obj = .ref s.heap.objs.size ∧ s₁ = { s with heap := s.heap.push { cls := .type "set", dict := none, data := .set #[] 0 (.fresh 0 0 (!w.params.followText "set-order")) } }) ⟨rfl, rfl⟩) fun r s₁ hr => ?_
  cases r with
  | error e => exact hr
  | ok fl =>
    cases fl with
    | ret obj =>
      obtain ⟨rfl, rfl⟩ := hr
      have hS : (s.heap.push { cls := .type "set", dict := none, data := .set #[] 0 (.fresh 0 0 (!w.params.followText "set-order")) }).get? s.heap.objs.size = some { cls := .type "set", dict := none, data := .set #[] 0 (.fresh 0 0 (!w.params.followText "set-order")) } := Heap.get?_push_size _ rfl
      have hT : Shared.TypeIs { s with heap := s.heap.push { cls := .type "set", dict := none, data := .set #[] 0 (.fresh 0 0 (!w.params.followText "set-order")) } } (.ref s.heap.objs.size) "set" := ⟨_, hS, rfl⟩
      have hli := PySem.F.called_set.init.lookup
      have hbi := PySem.F.called_set.init.bind (.ref s.heap.objs.size)
      repeat (any_goals (first | assumption | wp_step))
      refine codeAny_mono (codeAny_call_builtin (R := wants (fun r s₂ => r = .none ∧ ∃ h' tk c, s₂ = { s with heap := h', toks := tk } ∧ SetR w h' s.heap.objs.size (fun j => decide (j ∈ xs)) c ∧ (∀ b o, s.heap.get? b = some o → h'.get? b = some o)) E) PySem.F.called_set.init.plain PySem.F.entry_set_init (check_set_init_1 hT ?_)) fun r₂ s₂ hr₂ => ?_
      · obtain ⟨⟨ocls, odict, odata, oslots⟩, hol, hcl, nl, hdl⟩ := hl
        simp only at hcl hdl
        subst hcl; subst hdl
        have hol' : (s.heap.push { cls := .type "set", dict := none, data := .set #[] 0 (.fresh 0 0 (!w.params.followText "set-order")) }).get? l = some { cls := .type "list", dict := odict, data := .seq items nl, slots := oslots } := Heap.get?_push_of_some _ hol
        have hsls := PySem.F.sub_list_set
        have hslf := PySem.F.sub_list_frozenset
        have hne : (Value.type "list" == Value.type "dict") = false := by decide
        have hl1 : (s.heap.push { cls := .type "set", dict := none, data := .set #[] 0 (.fresh 0 0 (!w.params.followText "set-order")) }).IsList l items := ⟨_, hol', rfl, nl, rfl⟩
        unfold Builtin.«set.__init__» noKeywords Builtin.Frozenset.updateFrom
        generalize hPI : pyIter = PI
        wp_walk
        subst hPI
        refine wpAny_pyIter_list hl1 (wpAny_bind (wpAny_runValue ?_))
        have hlS : l < s.heap.objs.size := Heap.lt_size hol
        have hh3 : A.in1.in1.in1.handled = none := by simp [hh]
        have hz1 : (s.heap.push { cls := .type "set", dict := none, data := .set #[] 0 (.fresh 0 0 (!w.params.followText "set-order")) }).objs.size = s.heap.objs.size + 1 := Heap.size_push ..
        have hneI : l ≠ (s.heap.push { cls := .type "set", dict := none, data := .set #[] 0 (.fresh 0 0 (!w.params.followText "set-order")) }).objs.size := by rw [hz1]; exact Nat.ne_of_lt (Nat.lt_succ_of_lt hlS)
        have hSf : s.heap.objs.size ∉ [(s.heap.push { cls := .type "set", dict := none, data := .set #[] 0 (.fresh 0 0 (!w.params.followText "set-order")) }).objs.size, l] := by
          rw [hz1]
          intro hm
          simp only [List.mem_cons, List.not_mem_nil, or_false] at hm
          exact hm.elim (Nat.ne_of_lt (Nat.lt_succ_self _)) (Nat.ne_of_gt hlS)
        have hisz : items.size = xs.length := by
          have q := IntsAre.length hi
          rw [Array.length_toList] at q
          exact q
        have hval : ∀ (i : Nat) (v : Value), items[i]? = some v → ∃ k t, xs[i]? = some k ∧ v = .int k t := fun i v hv => by
          have hlt : i < xs.length := by rw [← hisz]; exact (Array.getElem?_eq_some_iff.mp hv).1
          obtain ⟨t, e⟩ := PyProof.Rows.IntsAre.int_at hi i v (by rw [Array.getElem?_toList]; exact hv)
          refine ⟨xs[i], t, List.getElem?_eq_getElem hlt, ?_⟩
          rw [e, List.getD_eq_getElem?_getD, List.getElem?_eq_getElem hlt] <;> rfl
        refine set_update_ints ((Walks.list hh3 _ l hneI items).toS) s.heap.objs.size hSf xs hisz hn hval (items.size - 0) 0 _ (by omega) (Nat.zero_le _) ⟨⟨_, Heap.get?_push_size _ rfl, rfl, rfl⟩, (hl1.push _)⟩ ⟨0, Nat.le_refl 0, setR_new_at (Heap.get?_push_of_some _ hS)⟩ fun s' c2 hm hc2 hS' => ?_
        obtain ⟨h', g', d', tk', os'⟩ := s'
        have eg : g' = s.gens := hm.gens
        have ed : d' = s.drawn := hm.drawn
        have eo : os' = s.os := hm.os
        subst eg; subst ed; subst eo
        refine (show wpAny _ _ _ _ _ _ from wpAny_pure (show wpAny _ _ (ret Value.none) _ _ _ from wpAny_pure ⟨rfl, h', tk', c2, rfl, hS', fun b o e => ?_⟩))
        have hb := Heap.lt_size e
        refine hm.heap b o (fun hm2 => ?_) (Heap.get?_push_of_some _ (Heap.get?_push_of_some _ e))
        simp only [List.mem_cons, List.not_mem_nil, or_false] at hm2
        exact hm2.elim (Nat.ne_of_lt hb) fun z => Nat.ne_of_lt (Nat.lt_succ_of_lt hb) (z.trans hz1)
      · cases r₂ with
        | error e => exact hr₂
        | ok fl₂ =>
          cases fl₂ with
          | ret r =>
            obtain ⟨rfl, h', tk, c2, rfl, hS', hk'⟩ := hr₂
            repeat (any_goals (first | assumption | wp_step))
            exact h _ _ _ hS' hk'
          | _ => exact hr₂.elim
    | _ => exact hr.elim
end
/-- each once -/
def dedI : List Int → List Int
  | [] => []
  | x :: xs => if x ∈ xs then dedI xs else x :: dedI xs
theorem mem_dedI : ∀ (xs : List Int) (k : Int), k ∈ dedI xs ↔ k ∈ xs
  | [], k => Iff.rfl
  | x :: xs, k => by
    unfold dedI
    split
    · rename_i h
      rw [mem_dedI xs k, List.mem_cons]
      exact ⟨.inr, fun z => z.elim (fun e => e ▸ h) id⟩
    · rw [List.mem_cons, List.mem_cons, mem_dedI xs k]
theorem dedI_nodup : ∀ xs : List Int, (dedI xs).Nodup
  | [] => List.nodup_nil
  | x :: xs => by
    unfold dedI
    split
    · exact dedI_nodup xs
    · rename_i h
      exact List.nodup_cons.mpr ⟨fun z => h ((mem_dedI xs x).mp z), dedI_nodup xs⟩
theorem perm_of_mem {a b : List Int} (ha : a.Nodup) (hb : b.Nodup) (h : ∀ k, k ∈ a ↔ k ∈ b) : a.Perm b := (List.perm_ext_iff_of_nodup ha hb).mpr h
def SetIO (w : World) (a : Addr) (S : Int → Bool) (n : Nat) : HO := .ext fun h => SetR w h a S n
theorem setIO_ok {P : Program} {w : World} {H : Hp} {h : Heap} {a : Addr} {S : Int → Bool} {n : Nat} (R : SetR w h a S n) : ObjOk P w H h a (SetIO w a S n) := by
  have ⟨o, _, _, _, ho, _⟩ := R
  exact ⟨R, ⟨o, ho⟩, fun h1 h2 p k => SetR.at p k⟩
def rSetI (K : PySem.W.Frag) (w : World) : List V → Hp → VK → Prop := fun xs H Q => ∃ (a : Addr) (zs : List Int), xs = [.ref a] ∧ (SqL K H a (zs.map V.int) ∨ SqT K H a (zs.map V.int)) ∧ zs.length + 1 < scanBound ∧ ∀ p n, n = (dedI zs).length → H p = none → Q (.ref p) (upd H p (SetIO w p (fun j => decide (j ∈ zs)) n))
def rLenI (w : World) : List V → Hp → VK → Prop := fun xs H Q => ∃ (a : Addr) (S : Int → Bool) (n : Nat), xs = [.ref a] ∧ H a = some (SetIO w a S n) ∧ n < 4000 ∧ Q (.int n) H
theorem setR_len {w : World} {h : Heap} {a : Addr} {zs : List Int} {n : Nat} (R : SetR w h a (fun j => decide (j ∈ zs)) n) : n = (dedI zs).length := by
  obtain ⟨o, es, ep, t, ho, hex, hd, g, nd, hm, hb, hf, hn, hr, hl⟩ := R
  have p : (es.toList.map keyOf).Perm (dedI zs) := perm_of_mem nd (dedI_nodup zs) fun k => by
    rw [← hm k, mem_dedI]
    exact decide_eq_true_iff
  have := p.length_eq
  rw [List.length_map, Array.length_toList] at this
  omega
section
variable {X : Cx}
theorem cr_setI (hc : X.calm = true) : CallR X (.type "set") (rSetI X.K X.w) := by
  intro pins s σ H xs us Q I r h
  obtain ⟨a, zs, rfl, hq, hl, q⟩ := h
  rw [Vals.ref1 r]
  have fin : ∀ (h' : Heap) (tk c : Nat), SetR X.w h' s.heap.objs.size (fun j => decide (j ∈ zs)) c → (∀ b o, s.heap.get? b = some o → h'.get? b = some o) → EP X pins σ Q (.ref s.heap.objs.size) { s with heap := h', toks := tk } := fun h' tk c hS hk =>
    ⟨.ref s.heap.objs.size, _, I.laid hk (Nat.le_refl _) (setIO_ok hS), rfl, q _ _ (setR_len hS) (I.hok.fresh (Nat.le_refl _))⟩
  rcases hq with hq | hq
  · obtain ⟨its, rv, pl, hz⟩ := I.list hq
    exact call_setI_list (I.ok.hd hc) pl.isList (by simpa using rv.ints) hl fin
  · obtain ⟨its, rv, pl, hz⟩ := I.tuple hq
    exact call_set_tupI zs (I.ok.hd hc) pl (by simpa using rv.ints) hl fun h' tk c hS _ hk => fin h' tk c hS hk
theorem cr_lenI : CallR X (.builtin "len") (rLenI X.w) := by
  intro pins s σ H xs us Q I r h
  obtain ⟨a, S, n, rfl, ha, h64, q⟩ := h
  rw [Vals.ref1 r]
  obtain ⟨o, es, ep, t, ho, hex, hd, g, nd, hm, hb, hf, hn, hr, hl⟩ := (show SetR X.w s.heap a S n from (I.hok a _ ha).1)
  exact call_len_set ho hex hd hf (by rw [hn] <;> omega) ⟨.int n, H, I.tok _, ⟨_, by rw [hn]⟩, q⟩
end
end PM

/-! dicts with tuples as keys; k in d, d[k], d[k] = v for any dict, a value or one's own -/
namespace PM
open PySem PySem.Spec PyProof.Rows L2
def tkD : D → Option NestedKey
  | .tup ds => (nkD (.tup ds)).bind fun k => if k.depth ≤ 8 then some k else none
  | _ => none
theorem tkD_some {d : D} {k : NestedKey} (h : tkD d = some k) : nkD d = some k ∧ k.depth ≤ 8 := by
  unfold tkD at h
  split at h
  · rename_i ds
    cases q : nkD (.tup ds) with
    | none => rw [q] at h; cases h
    | some k' =>
      rw [q] at h
      simp only [Option.bind_some] at h
      split at h
      · rename_i hd
        have h := Option.some.inj h
        subst h
        exact ⟨rfl, hd⟩
      · cases h
  · cases h
def hasN (ks : List D) (k : NestedKey) : Bool := ks.any fun d => decide (nkD d = some k)
def valN : List D → List D → NestedKey → Option D
  | k' :: ks, d :: ds, k => if nkD k' = some k then some d else valN ks ds k
  | _, _, _ => none
def replN (k : NestedKey) (d : D) : List D → List D → List D
  | k' :: ks, e :: ds => (if nkD k' = some k then d else e) :: replN k d ks ds
  | _, _ => []
def putKN (ks : List D) (k : NestedKey) (kd : D) : List D := if hasN ks k = true then ks else ks ++ [kd]
def putDN (ks ds : List D) (k : NestedKey) (d : D) : List D := if hasN ks k = true then replN k d ks ds else ds ++ [d]
def putX (xs : List (NestedKey × Addr × V)) (k : NestedKey) (b : Addr) (v : V) : List (NestedKey × Addr × V) :=
  if (xs.any fun x => decide (x.1 = k)) = true then xs.map (fun x => if x.1 = k then (x.1, x.2.1, v) else x) else xs ++ [(k, b, v)]

/-! ### in the heap -/
section
variable {X : Cx} {pins : List (Addr × Obj)} {σ : L2.St} {H : Hp} {s : Shared} {w : Wd} {O : Av}
mutual
theorem nest_of (I : Inv X pins σ H s) (hK : w.K = X.K) : ∀ (d : D) (k : NestedKey) (v : V) (u : Value), nkD d = some k → Rep w O H d v → RelV v u → NestedIs s.heap k u
  | .non, k, v, u, e, r, q => by
    simp only [nkD] at e
    cases e
    simp only [Rep] at r
    subst r
    have q : u = Value.none := q
    subst q
    exact .none
  | .int i, k, v, u, e, r, q => by
    simp only [nkD] at e
    cases e
    simp only [Rep] at r
    subst r
    obtain ⟨t, rfl⟩ := (show ∃ t, u = Value.int i t from q)
    exact .int i t
  | .str x, k, v, u, e, r, q => by
    simp only [nkD] at e
    cases e
    simp only [Rep] at r
    subst r
    obtain ⟨t, rfl⟩ := (show ∃ t, u = Value.str x t from q)
    exact .text x t
  | .tup ds, k, v, u, e, r, q => by
    simp only [nkD] at e
    cases q2 : nkL ds with
    | none => rw [q2] at e; cases e
    | some ks =>
      rw [q2] at e
      cases e
      simp only [Rep] at r
      obtain ⟨a, vs, rfl, h1, h2⟩ := r
      have q : u = .ref a := q
      subst q
      obtain ⟨its, rv, ⟨o, p1, p2, n, p3⟩, _⟩ := I.tuple (hK ▸ sq_of_rep h1)
      exact .tup p1 p2 p3 (by simpa using nests_of I hK ds ks vs its q2 h2 rv)
  | .bl _, k, v, u, e, r, q => by simp only [nkD] at e; cases e
  | .lst _, k, v, u, e, r, q => by simp only [nkD] at e; cases e
  | .dct _ _, k, v, u, e, r, q => by simp only [nkD] at e; cases e
  | .obj _ _, k, v, u, e, r, q => by simp only [nkD] at e; cases e
  | .scr _, k, v, u, e, r, q => by simp only [nkD] at e; cases e
  | .cls _, k, v, u, e, r, q => by simp only [nkD] at e; cases e
  | .exn _ _ _, k, v, u, e, r, q => by simp only [nkD] at e; cases e
  | .set _, k, v, u, e, r, q => by simp only [nkD] at e; cases e
  | .dkf _ _, k, v, u, e, r, q => by simp only [nkD] at e; cases e
  | .dkt _ _, k, v, u, e, r, q => by simp only [nkD] at e; cases e
theorem nests_of (I : Inv X pins σ H s) (hK : w.K = X.K) : ∀ (ds : List D) (ks : List NestedKey) (vs : List V) (us : List Value), nkL ds = some ks → RepL w O H ds vs → Vals vs us → NestedAll s.heap ks us
  | [], ks, vs, us, e, r, q => by
    simp only [nkL] at e
    cases e
    simp only [RepL] at r
    subst r
    cases q
    exact .nil
  | d :: ds, ks, vs, us, e, r, q => by
    simp only [nkL] at e
    cases q1 : nkD d with
    | none => rw [q1] at e; cases e
    | some k =>
      rw [q1] at e
      simp only [Option.bind_some] at e
      cases q2 : nkL ds with
      | none => rw [q2] at e; cases e
      | some ks' =>
        rw [q2] at e
        cases e
        simp only [RepL] at r
        obtain ⟨v, vs', rfl, r1, r2⟩ := r
        cases q with
        | cons rv rr => exact .cons (nest_of I hK d k v _ q1 r1 rv) (nests_of I hK ds ks' vs' _ q2 r2 rr)
end
abbrev FY (p : NestedKey × Addr × V) (q : NestedKey × Addr × Value) : Prop := p.1 = q.1 ∧ p.2.1 = q.2.1 ∧ RelV p.2.2 q.2.2
theorem keys_heap (I : Inv X pins σ H s) (hK : w.K = X.K) : ∀ {xs : List (NestedKey × Addr × V)} {ys : List (NestedKey × Addr × Value)}, Paired FY xs ys → ∀ {ks : List D}, nkL ks = some (xs.map (·.1)) → RepL w O H ks (xs.map fun x => V.ref x.2.1) → (∀ x ∈ xs, x.1.depth ≤ 8) →
    ∀ y ∈ ys, (nestedKind X.prog X.w).is s.heap y.1 y.2.1
  | _, _, .nil, ks, _, _, _ => fun y hy => by simp at hy
  | _, _, .cons (a := x) (b := y) h t, ks, e, r, dp => by
    cases ks with
    | nil => simp only [nkL, List.map_cons] at e; cases e
    | cons d ds =>
      simp only [nkL] at e
      cases q1 : nkD d with
      | none => rw [q1] at e; cases e
      | some k =>
        rw [q1] at e
        simp only [Option.bind_some] at e
        cases q2 : nkL ds with
        | none => rw [q2] at e; cases e
        | some ks' =>
          rw [q2] at e
          simp only [Option.map_some, List.map_cons, Option.some.injEq, List.cons.injEq] at e
          obtain ⟨rfl, rfl⟩ := e
          simp only [RepL, List.map_cons] at r
          obtain ⟨v, vs', e1, r1, r2⟩ := r
          cases e1
          intro z hz
          rcases List.mem_cons.mp hz with rfl | hz
          · exact ⟨by
              have := nest_of I hK d _ _ (.ref x.2.1) q1 r1 rfl
              rw [← h.1, ← h.2.1]
              exact this, by rw [← h.1]; exact dp x List.mem_cons_self⟩
          · exact keys_heap I hK t q2 r2 (fun x hx => dp x (List.mem_cons_of_mem _ hx)) z hz
/-- a dict with tuples as keys, perhaps empty -/
def DkAt (w : Wd) (O : Av) (H : Hp) (a : Addr) (ks ds : List D) : Prop := ∃ xs, (Rd H a (DkO w.wo a xs) ∨ xs = [] ∧ Rd H a (.dK [])) ∧ nkL ks = some (xs.map (·.1)) ∧ RepL w O H ks (xs.map fun x => V.ref x.2.1) ∧ RepL w O H ds (xs.map (·.2.2))
theorem dk_nest {P : Program} {wo : World} {h : Heap} {a : Addr} {xs : List (Key × Value)} (hx : xs = []) (q : h.DictOf (mixKind P wo) a xs) : h.DictOfH (nestedKind P wo) a [] := by
  subst hx
  obtain ⟨o, es, ep, h1, h2, h3, h4, h5, h6⟩ := q
  have e : es.toList = [] := by
    cases h5' : es.toList with
    | nil => rfl
    | cons x l => rw [h5'] at h5; cases h5
  exact ⟨o, es, ep, h1, h2, h3, by rw [e]; rfl, fun x hx => by simp at hx, List.nodup_nil⟩
theorem dk_heap (I : Inv X pins σ H s) (hK : w.K = X.K) (hW : w.wo = X.w) {a : Addr} {xs : List (NestedKey × Addr × V)} {ks : List D} (h : Rd H a (DkO w.wo a xs) ∨ xs = [] ∧ Rd H a (.dK [])) (hk : nkL ks = some (xs.map (·.1))) (rk : RepL w O H ks (xs.map fun x => V.ref x.2.1)) :
    xs.length ≤ sizeLine ∧ (a == sysModules) = false ∧ (∀ x ∈ xs, x.1.depth ≤ 8) ∧ ∃ ys, Paired FY xs ys ∧ s.heap.DictOfH (nestedKind X.prog X.w) a ys := by
  rcases h with h | ⟨rfl, h⟩
  · rw [hW] at h
    obtain ⟨⟨z1, z2, z0, ys, z3, o, es, ep, z4, z5, z6, z7, z8⟩, _⟩ := (show DkP X.w a xs s.heap ∧ _ from h.ok I.hok)
    exact ⟨z1, z2, z0, ys, z3, o, es, ep, z4, z5, z6, z7, keys_heap I hK z3 hk rk z0, z8⟩
  · obtain ⟨z1, z2, vs, z3, z4⟩ := dk_rd I.hok h
    cases z3
    exact ⟨Nat.zero_le _, z2, fun x hx => by simp at hx, [], .nil, dk_nest rfl z4⟩
theorem atKey_cons {x : NestedKey × Addr × Value} {xs : List (NestedKey × Addr × Value)} {k : NestedKey} : atKey (x :: xs) k = if x.1 = k then some x.2 else atKey xs k := by
  unfold atKey
  rw [List.find?_cons]
  by_cases h : x.1 = k
  · simp [h]
  · simp [h]
theorem look_has {k : NestedKey} : ∀ {xs : List (NestedKey × Addr × V)} {ys : List (NestedKey × Addr × Value)}, Paired FY xs ys → ∀ {ks : List D}, nkL ks = some (xs.map (·.1)) → hasN ks k = (atKey ys k).isSome
  | _, _, .nil, ks, e => by
    cases ks with
    | nil => rfl
    | cons d ds =>
      simp only [nkL, List.map_nil] at e
      cases q1 : nkD d with
      | none => rw [q1] at e; cases e
      | some k1 =>
        rw [q1] at e
        cases q2 : nkL ds with
        | none => rw [q2] at e; cases e
        | some k2 => rw [q2] at e; cases e
  | _, _, .cons (a := x) (b := y) h t, ks, e => by
    cases ks with
    | nil => simp only [nkL, List.map_cons] at e; cases e
    | cons d ds =>
      simp only [nkL] at e
      cases q1 : nkD d with
      | none => rw [q1] at e; cases e
      | some k1 =>
        rw [q1] at e
        simp only [Option.bind_some] at e
        cases q2 : nkL ds with
        | none => rw [q2] at e; cases e
        | some ks' =>
          rw [q2] at e
          simp only [Option.map_some, List.map_cons, Option.some.injEq, List.cons.injEq] at e
          obtain ⟨rfl, rfl⟩ := e
          have ih := look_has (k := k) t q2
          rw [atKey_cons, ← h.1]
          unfold hasN at ih ⊢
          rw [List.any_cons, ih, q1]
          by_cases z : x.1 = k
          · simp [z]
          · simp [z]
theorem look_val {k : NestedKey} {d : D} : ∀ {xs : List (NestedKey × Addr × V)} {ys : List (NestedKey × Addr × Value)}, Paired FY xs ys → ∀ {ks ds : List D}, nkL ks = some (xs.map (·.1)) → RepL w O H ds (xs.map (·.2.2)) → valN ks ds k = some d →
    ∃ p v, atKey ys k = some p ∧ RelV v p.2 ∧ Rep w O H d v
  | _, _, .nil, ks, ds, e, r, hv => by
    have : ds = [] := by
      cases ds with
      | nil => rfl
      | cons d ds => simp [RepL] at r
    subst this
    cases ks <;> simp [valN] at hv
  | _, _, .cons (a := x) (b := y) h t, ks, ds, e, r, hv => by
    cases ks with
    | nil => simp [valN] at hv
    | cons d1 ks =>
      cases ds with
      | nil => simp [valN] at hv
      | cons d2 ds =>
        simp only [nkL] at e
        cases q1 : nkD d1 with
        | none => rw [q1] at e; cases e
        | some k1 =>
          rw [q1] at e
          simp only [Option.bind_some] at e
          cases q2 : nkL ks with
          | none => rw [q2] at e; cases e
          | some ks' =>
            rw [q2] at e
            simp only [Option.map_some, List.map_cons, Option.some.injEq, List.cons.injEq] at e
            obtain ⟨rfl, rfl⟩ := e
            simp only [RepL, List.map_cons] at r
            obtain ⟨v, vs', e1, r1, r2⟩ := r
            cases e1
            rw [atKey_cons, ← h.1]
            simp only [valN, q1] at hv
            by_cases z : x.1 = k
            · rw [if_pos (by rw [z])] at hv
              cases hv
              rw [if_pos z]
              exact ⟨_, _, rfl, h.2.2, r1⟩
            · rw [if_neg (fun q => z (Option.some.inj q))] at hv
              rw [if_neg z]
              exact look_val t q2 r2 hv
theorem any_at {k : NestedKey} : ∀ {xs : List (NestedKey × Addr × V)} {ys : List (NestedKey × Addr × Value)}, Paired FY xs ys → (xs.any fun x => decide (x.1 = k)) = (atKey ys k).isSome
  | _, _, .nil => rfl
  | _, _, .cons (a := x) (b := y) h t => by
    have ih := any_at (k := k) t
    rw [atKey_cons, ← h.1, List.any_cons, ih]
    by_cases z : x.1 = k
    · simp [z]
    · simp [z]
theorem map_put {k : NestedKey} {v : V} {u : Value} (rv : RelV v u) : ∀ {xs : List (NestedKey × Addr × V)} {ys : List (NestedKey × Addr × Value)}, Paired FY xs ys → Paired FY (xs.map fun x => if x.1 = k then (x.1, x.2.1, v) else x) (ys.map (putAt k u))
  | _, _, .nil => .nil
  | _, _, .cons (a := x) (b := y) h t => by
    refine .cons ?_ (map_put rv t)
    show FY (if x.1 = k then (x.1, x.2.1, v) else x) (putAt k u y)
    unfold putAt
    by_cases z : x.1 = k
    · rw [if_pos z, if_pos (h.1 ▸ z)]
      exact ⟨h.1, h.2.1, rv⟩
    · rw [if_neg z, if_neg (fun q => z (h.1.trans q))]
      exact h
theorem put_paired {k : NestedKey} {b : Addr} {v : V} {u : Value} (rv : RelV v u) {xs : List (NestedKey × Addr × V)} {ys : List (NestedKey × Addr × Value)} (h : Paired FY xs ys) : Paired FY (putX xs k b v) (storedH ys k b u) := by
  unfold putX storedH
  rw [any_at h]
  split
  · exact map_put rv h
  · exact h.snoc ⟨rfl, rfl, rv⟩
theorem repl_repN {k : NestedKey} {d : D} {v : V} (hd : Rep w O H d v) : ∀ {ks ds : List D} {xs : List (NestedKey × Addr × V)}, nkL ks = some (xs.map (·.1)) → RepL w O H ds (xs.map (·.2.2)) → RepL w O H (replN k d ks ds) ((xs.map fun x => if x.1 = k then (x.1, x.2.1, v) else x).map (·.2.2))
  | [], ds, xs, e, r => by
    simp only [nkL] at e
    have e : xs.map (·.1) = [] := (Option.some.inj e).symm
    have e : xs = [] := List.map_eq_nil_iff.mp e
    subst e
    simp [replN, RepL]
  | k' :: ks, [], xs, e, r => by
    simp only [RepL] at r
    have e2 : xs = [] := List.map_eq_nil_iff.mp r
    subst e2
    simp [replN, RepL]
  | k' :: ks, d' :: ds, [], e, r => by simp [RepL] at r
  | k' :: ks, d' :: ds, x :: xs, e, r => by
    simp only [nkL] at e
    cases q1 : nkD k' with
    | none => rw [q1] at e; cases e
    | some k1 =>
      rw [q1] at e
      simp only [Option.bind_some] at e
      cases q2 : nkL ks with
      | none => rw [q2] at e; cases e
      | some ks' =>
        rw [q2] at e
        simp only [Option.map_some, List.map_cons, Option.some.injEq, List.cons.injEq] at e
        obtain ⟨rfl, rfl⟩ := e
        simp only [RepL, List.map_cons] at r
        obtain ⟨v', vs', e1, r1, r2⟩ := r
        cases e1
        simp only [replN, List.map_cons, RepL]
        refine ⟨_, _, rfl, ?_, repl_repN hd q2 r2⟩
        by_cases z : x.1 = k
        · rw [if_pos z, if_pos (by rw [q1, z])]
          exact hd
        · rw [if_neg z, if_neg (fun q => z (Option.some.inj (q1.symm.trans q)))]
          exact r1
theorem nkL_app : ∀ {ks : List D} {l : List NestedKey} {kd : D} {k : NestedKey}, nkL ks = some l → nkD kd = some k → nkL (ks ++ [kd]) = some (l ++ [k])
  | [], l, kd, k, e, h => by
    simp only [nkL] at e
    cases e
    simp [nkL, h]
  | d :: ds, l, kd, k, e, h => by
    simp only [nkL] at e
    cases q1 : nkD d with
    | none => rw [q1] at e; cases e
    | some k1 =>
      rw [q1] at e
      simp only [Option.bind_some] at e
      cases q2 : nkL ds with
      | none => rw [q2] at e; cases e
      | some ks' =>
        rw [q2] at e
        cases e
        simp only [List.cons_append, nkL, q1, Option.bind_some, nkL_app q2 h, Option.map_some]
theorem hasN_any : ∀ {ks : List D} {xs : List (NestedKey × Addr × V)} {k : NestedKey}, nkL ks = some (xs.map (·.1)) → hasN ks k = xs.any fun x => decide (x.1 = k)
  | [], xs, k, e => by
    simp only [nkL] at e
    have e : xs.map (·.1) = [] := (Option.some.inj e).symm
    have e : xs = [] := List.map_eq_nil_iff.mp e
    subst e
    rfl
  | d :: ds, [], k, e => by
    simp only [nkL, List.map_nil] at e
    cases q1 : nkD d with
    | none => rw [q1] at e; cases e
    | some k1 =>
      rw [q1] at e
      cases q2 : nkL ds with
      | none => rw [q2] at e; cases e
      | some k2 => rw [q2] at e; cases e
  | d :: ds, x :: xs, k, e => by
    simp only [nkL] at e
    cases q1 : nkD d with
    | none => rw [q1] at e; cases e
    | some k1 =>
      rw [q1] at e
      simp only [Option.bind_some] at e
      cases q2 : nkL ds with
      | none => rw [q2] at e; cases e
      | some ks' =>
        rw [q2] at e
        simp only [Option.map_some, List.map_cons, Option.some.injEq, List.cons.injEq] at e
        obtain ⟨rfl, rfl⟩ := e
        have ih := hasN_any (k := k) q2
        unfold hasN at ih ⊢
        simp only [List.any_cons, ih, q1, Option.some.injEq]
theorem put_repN {k : NestedKey} {kd d : D} {b : Addr} {v : V} {ks ds : List D} {xs : List (NestedKey × Addr × V)} (hn : nkL ks = some (xs.map (·.1))) (rk : RepL w O H ks (xs.map fun x => V.ref x.2.1)) (rd : RepL w O H ds (xs.map (·.2.2))) (hk : nkD kd = some k) (hb : Rep w O H kd (.ref b)) (hd : Rep w O H d v) :
    nkL (putKN ks k kd) = some ((putX xs k b v).map (·.1)) ∧ RepL w O H (putKN ks k kd) ((putX xs k b v).map fun x => V.ref x.2.1) ∧ RepL w O H (putDN ks ds k d) ((putX xs k b v).map (·.2.2)) := by
  unfold putKN putDN putX
  rw [hasN_any hn]
  split
  · have e1 : (xs.map fun x => if x.1 = k then (x.1, x.2.1, v) else x).map (·.1) = xs.map (·.1) := by
      rw [List.map_map]
      refine List.map_congr_left fun x _ => ?_
      simp only [Function.comp]
      split <;> rfl
    have e2 : ((xs.map fun x => if x.1 = k then (x.1, x.2.1, v) else x).map fun x => V.ref x.2.1) = xs.map fun x => V.ref x.2.1 := by
      rw [List.map_map]
      refine List.map_congr_left fun x _ => ?_
      simp only [Function.comp]
      split <;> rfl
    rw [e1, e2]
    exact ⟨hn, rk, repl_repN hd hn rd⟩
  · simp only [List.map_append, List.map_cons, List.map_nil]
    exact ⟨nkL_app hn hk, rk.append (by simp only [RepL]; exact ⟨_, [], rfl, hb, rfl⟩), rd.append (by simp only [RepL]; exact ⟨_, [], rfl, hd, rfl⟩)⟩
theorem putX_len (xs : List (NestedKey × Addr × V)) (k : NestedKey) (b : Addr) (v : V) : (putX xs k b v).length ≤ xs.length + 1 := by
  unfold putX
  split <;> simp
theorem putX_depth {xs : List (NestedKey × Addr × V)} {k : NestedKey} {b : Addr} {v : V} (h : ∀ x ∈ xs, x.1.depth ≤ 8) (hk : k.depth ≤ 8) : ∀ x ∈ putX xs k b v, x.1.depth ≤ 8 := by
  unfold putX
  split
  · intro x hx
    obtain ⟨y, hy, rfl⟩ := List.mem_map.mp hx
    have := h y hy
    split <;> exact this
  · intro x hx
    rcases List.mem_append.mp hx with hx | hx
    · exact h x hx
    · rw [List.mem_singleton.mp hx]
      exact hk
end

/-! ### readings -/
def xorB (neg b : Bool) : Bool := if neg then !b else b
def rInK (K : PySem.W.Frag) (wo : World) (neg : Bool) : R2 := fun x y H Q => (∃ a o, y = .ref a ∧ DGet H a x o ∧ Q (.bl (xorB neg o.isSome)) H) ∨
  ∃ (w : Wd) (O : Av) (a b : Addr) (ks ds : List D) (kd : D) (k : NestedKey), w.K = K ∧ w.wo = wo ∧ y = .ref a ∧ x = .ref b ∧ DkAt w O H a ks ds ∧ Rep w O H kd x ∧ tkD kd = some k ∧ Q (.bl (xorB neg (hasN ks k))) H
def rGetK (K : PySem.W.Frag) (wo : World) : R2 := fun x y H Q => (∃ a v, x = .ref a ∧ DGet H a y (some v) ∧ Q v H) ∨
  ∃ (w : Wd) (O : Av) (a b : Addr) (ks ds : List D) (kd d : D) (k : NestedKey), w.K = K ∧ w.wo = wo ∧ x = .ref a ∧ y = .ref b ∧ DkAt w O H a ks ds ∧ Rep w O H kd y ∧ tkD kd = some k ∧ valN ks ds k = some d ∧ ∀ v, Rep w O H d v → Q v H
def PutN (K : PySem.W.Frag) (wo : World) (H : Hp) (a : Addr) (y v : V) (H' : Hp) : Prop :=
  ∃ (w : Wd) (O : Av) (b : Addr) (ks : List D) (xs : List (NestedKey × Addr × V)) (kd : D) (k : NestedKey), w.K = K ∧ w.wo = wo ∧ y = .ref b ∧ (H a = some (DkO wo a xs) ∨ xs = [] ∧ H a = some (.dK [])) ∧ nkL ks = some (xs.map (·.1)) ∧ RepL w O H ks (xs.map fun x => V.ref x.2.1) ∧ Rep w O H kd y ∧ tkD kd = some k ∧ xs.length < sizeLine ∧
    H' = upd H a (DkO wo a (putX xs k b v))
theorem room_in1 {A : Around} (h : A.units + 9 < cLine) : A.in1.units + 8 < cLine := by
  rw [Around.in1_units]
  omega
section
variable {X : Cx} {pins : List (Addr × Obj)} {σ : L2.St} {H : Hp} {s : Shared}
theorem op_inK (hu : X.A.units + 9 < cLine) : OpR X (compareOp .In) (rInK X.K X.w false) := by
  intro pins s σ H x y v u Q I rx ry q
  rcases q with ⟨a, o, rfl, g, q⟩ | ⟨w, O, a, b, ks, ds, kd, k, hK, hW, rfl, rfl, ⟨xs, h1, h2, h3, h4⟩, r, hk, q⟩
  · have ry : u = .ref a := ry
    subst ry
    exact d_in (by omega) I g rx fun s' I' => ⟨.bl _, H, I', rfl, q⟩
  · have ry : u = .ref a := ry
    have rx : v = .ref b := rx
    subst ry rx
    obtain ⟨z1, z2, _, ys, z3, z4⟩ := dk_heap I hK hW h1 h2 h3
    obtain ⟨n1, n2⟩ := tkD_some hk
    refine wpAny_in_heap (knd := nestedKind X.prog X.w) (room_in1 hu) ⟨nest_of I hK kd k _ _ n1 r rfl, n2⟩ z2 z4 ?_
    exact ⟨.bl _, H, I.tok _, rfl, by rw [← look_has z3 h2]; exact q⟩
theorem op_notInK (hu : X.A.units + 9 < cLine) : OpR X (compareOp .NotIn) (rInK X.K X.w true) := by
  intro pins s σ H x y v u Q I rx ry q
  rcases q with ⟨a, o, rfl, g, q⟩ | ⟨w, O, a, b, ks, ds, kd, k, hK, hW, rfl, rfl, ⟨xs, h1, h2, h3, h4⟩, r, hk, q⟩
  · have ry : u = .ref a := ry
    subst ry
    exact d_notIn (by omega) I g rx fun s' I' => ⟨.bl _, H, I', rfl, q⟩
  · have ry : u = .ref a := ry
    have rx : v = .ref b := rx
    subst ry rx
    obtain ⟨z1, z2, _, ys, z3, z4⟩ := dk_heap I hK hW h1 h2 h3
    obtain ⟨n1, n2⟩ := tkD_some hk
    refine wpAny_notIn_heap (knd := nestedKind X.prog X.w) (room_in1 hu) ⟨nest_of I hK kd k _ _ n1 r rfl, n2⟩ z2 z4 ?_
    exact ⟨.bl _, H, I.tok _, rfl, by rw [← look_has z3 h2]; exact q⟩
theorem pe_getK {o i : Expr} {pos : Pos} {td ty : TE} (hu : X.A.units + 9 < cLine) (ho : PE X o td) (hi : PE X i ty) (hs : NoSl i) : PE X (.Subscript o i pos) (tOp (rGetK X.K X.w) td ty) := by
  refine ⟨fun pins s σ H Q I h => ?_⟩
  refine subD_of PySem.F.slot_dict_getitem.lookup hs (thn (ho.run pins s σ H _ I h) fun u s1 ⟨x, H1, I1, rx, q1⟩ => thn (hi.run pins s1 σ H1 _ I1 q1) fun iv s2 ⟨y, H2, I2, ry, q2⟩ => ?_)
  rcases q2 with ⟨a, v, ex, g, q2⟩ | ⟨w, O, a, b, ks, ds, kd, d, k, hK, hW, rfl, rfl, ⟨xs, h1, h2, h3, h4⟩, r, hk, hv, q⟩
  · subst ex
    obtain rfl : u = Value.ref a := rx
    exact ⟨dict_typeIs I2 g, d_getItem (by omega) I2 g ry fun w' s3 I3 rw' => ⟨v, H2, I3, rw', q2⟩⟩
  · obtain rfl : u = Value.ref a := rx
    obtain rfl : iv = Value.ref b := ry
    obtain ⟨z1, z2, _, ys, z3, z4⟩ := dk_heap I2 hK hW h1 h2 h3
    obtain ⟨n1, n2⟩ := tkD_some hk
    obtain ⟨p, v, e1, e2, e3⟩ := look_val z3 h2 h4 hv
    refine ⟨z4.typeIs, wpAny_getItem_heap (knd := nestedKind X.prog X.w) (room_in1 hu) ⟨nest_of I2 hK kd k _ _ n1 r rfl, n2⟩ z4 e1 ?_⟩
    exact ⟨v, H2, I2.tok _, e2, q v e3⟩
def sPutN (K : PySem.W.Frag) (wo : World) (td ty tv : TE) : TS := fun D σ H => tv σ H fun v H1 => td σ H1 fun x H2 => ty σ H2 fun y H3 => ∃ a H4, x = .ref a ∧ PutN K wo H3 a y v H4 ∧ D.nx σ H4
theorem dkP_stays {wo : World} {a : Addr} {xs : List (NestedKey × Addr × V)} : ∀ h1 h2 : Heap, DkP wo a xs h1 → (∀ o, h1.get? a = some o → h2.get? a = some o) → DkP wo a xs h2 := fun h1 h2 ⟨z1, z2, z0, ys, z3, o, es, ep, z4, r⟩ k => ⟨z1, z2, z0, ys, z3, o, es, ep, k o z4, r⟩
theorem ps_putN {o i value : Expr} {pos pos' : Pos} {td ty tv : TE} (hu : X.A.units + 9 < cLine) (ho : PE X o td) (hi : PE X i ty) (hv : PE X value tv) (hs : swapsWith value (some (.Subscript o i pos')) pos.line X.env = pure false) :
    PS X (.Assign [.Subscript o i pos'] value pos) (sPutN X.K X.w td ty tv) := by
  refine ⟨fun pins s σ H D I h => ?_⟩
  refine wpAny_Assign_Subscript (thn (hv.run pins s σ H _ I h) fun r s1 ⟨v, H1, I1, rv, q1⟩ => thn (ho.run pins s1 σ H1 _ I1 q1) fun u s2 ⟨x, H2, I2, rx, q2⟩ => thn (hi.run pins s2 σ H2 _ I2 q2) fun iv s3 ⟨y, H3, I3, ry, a, H4, ex, g, q3⟩ => ?_) hs
  subst ex
  obtain rfl : u = Value.ref a := rx
  obtain ⟨w, O, b, ks, xs, kd, k, hK, hW, rfl, h1, h2, h3, r0, hk, hl, rfl⟩ := g
  obtain rfl : iv = Value.ref b := ry
  have h1' : Rd H3 a (DkO w.wo a xs) ∨ xs = [] ∧ Rd H3 a (.dK []) := h1.imp (fun z => .inl (by rw [hW]; exact z)) (fun z => ⟨z.1, .inl z.2⟩)
  obtain ⟨z1, z2, z0, ys, z3, z4⟩ := dk_heap I3 hK hW h1' h2 h3
  obtain ⟨n1, n2⟩ := tkD_some hk
  have ly : ys.length ≤ sizeLine := by rw [← Paired.length z3]; exact z1
  refine wpAny_setItem_heap (hsz := ly) (knd := nestedKind X.prog X.w) (room_in1 hu) ⟨nest_of I3 hK kd k _ _ n1 r0 rfl, n2⟩ z4 fun h' dd' hs' => ?_
  obtain ⟨q, es, ep, hq, g2, g3, g4, _, g5⟩ := dd'
  have mu : Mut (H3 a) := by
    rcases h1 with z | ⟨_, z⟩ <;> (rw [z]; exact True.intro)
  have zl := putX_len xs k b v
  have new : DkP X.w a (putX xs k b v) h' := ⟨by omega, z2, putX_depth z0 n2, _, put_paired rv z3, q, es, ep, hq, g2, g3, g4, g5⟩
  have ok : ObjOk X.prog X.w (upd H3 a (DkO X.w a (putX xs k b v))) h' a (DkO X.w a (putX xs k b v)) := ⟨new, ⟨q, hq⟩, dkP_stays⟩
  exact ⟨σ, _, d_write I3 mu hs' ⟨q, hq⟩ ok, q3⟩
end

/-! ### what they are worth -/
def inK (neg : Bool) (x y : D) : Option Vl := match y with
  | .dct ks ds => (match keyD x with
    | some k => some (dB (xorB neg (hasK ks k)))
    | none => if ks = [] then (tkD x).map fun _ => dB neg else none)
  | .dkt ks ds => (tkD x).map fun k => dB (xorB neg (hasN ks k))
  | _ => none
def getK (x y : D) : Option Vl := match x with
  | .dct ks ds => (keyD y).bind fun k => (valD ks ds k).map fun d => (d, false)
  | .dkt ks ds => (tkD y).bind fun k => (valN ks ds k).map fun d => (d, false)
  | _ => none
theorem valV_has {kk : Key} : ∀ {kvs : List (Key × V)}, (valV kvs kk).isSome = kvs.any fun kv => decide (kv.1 = kk)
  | [] => rfl
  | p :: kvs => by
    by_cases z : p.1 = kk
    · rw [valV_pos z]
      simp [z]
    · rw [valV_neg z, valV_has]
      simp [z]
theorem tk_ref {w : Wd} {O : Av} {H : Hp} {d : D} {k : NestedKey} {v : V} (h : tkD d = some k) (r : Rep w O H d v) : ∃ b, v = .ref b := by
  unfold tkD at h
  split at h
  · simp only [Rep] at r
    obtain ⟨a, vs, rfl, _⟩ := r
    exact ⟨a, rfl⟩
  · cases h
theorem o2_inK {w : Wd} (neg : Bool) : Op2 w (rInK w.K w.wo neg) (inK neg) := fun O H x y z vx vy Q dm e hx hy k => by
  unfold inK at e
  split at e
  · rename_i ks ds
    simp only [Rep] at hy
    obtain ⟨a, kvs, rfl, h1, h2, h3⟩ := hy
    have rd : Rd H a (.dK kvs) := h1.imp (·.2) (fun ⟨o, q⟩ => ⟨o, q.2⟩)
    split at e
    · rename_i kk ek
      cases e
      have ev := key_rep ek hx
      subst ev
      refine .inl ⟨a, _, rfl, .inl ⟨kvs, kk, rd, rfl, rfl⟩, ?_⟩
      rw [valV_has, ← keysD_has h2]
      exact k.bl
    · rename_i ek
      split at e
      · rename_i h0
        subst h0
        have h2 : kvs.map (·.1) = [] := h2
        have h2 : kvs = [] := List.map_eq_nil_iff.mp h2
        subst h2
        cases q : tkD x with
        | none => rw [q] at e; cases e
        | some kk =>
          rw [q] at e
          cases e
          obtain ⟨b, rfl⟩ := tk_ref q hx
          refine .inr ⟨w, O, a, b, [], ds, x, kk, rfl, rfl, rfl, rfl, ⟨[], .inr ⟨rfl, rd⟩, rfl, by simp only [List.map_nil, RepL], by simpa using h3⟩, hx, q, ?_⟩
          have : xorB neg (hasN [] kk) = neg := by cases neg <;> rfl
          rw [this]
          exact k.bl
      · cases e
  · rename_i ks ds
    simp only [Rep] at hy
    obtain ⟨a, xs, rfl, h1, h2, h3, h4⟩ := hy
    cases q : tkD x with
    | none => rw [q] at e; cases e
    | some kk =>
      rw [q] at e
      cases e
      obtain ⟨b, rfl⟩ := tk_ref q hx
      exact .inr ⟨w, O, a, b, ks, ds, x, kk, rfl, rfl, rfl, rfl, ⟨xs, .inl (h1.imp (·.2) (fun ⟨o, q⟩ => ⟨o, q.2⟩)), h2, h3, h4⟩, hx, q, k.bl⟩
  · cases e
theorem o2_getK {w : Wd} : Op2 w (rGetK w.K w.wo) getK := fun O H x y z vx vy Q dm e hx hy k => by
  unfold getK at e
  split at e
  · rename_i ks ds
    have := o2_dget (w := w) O H (.dct ks ds) y z vx vy Q dm e hx hy k
    exact .inl this
  · rename_i ks ds
    simp only [Rep] at hx
    obtain ⟨a, xs, rfl, h1, h2, h3, h4⟩ := hx
    cases q : tkD y with
    | none => rw [q] at e; cases e
    | some kk =>
      rw [q] at e
      simp only [Option.bind_some] at e
      cases q2 : valN ks ds kk with
      | none => rw [q2] at e; cases e
      | some d =>
        rw [q2] at e
        cases e
        obtain ⟨b, rfl⟩ := tk_ref q hy
        exact .inr ⟨w, O, a, b, ks, ds, y, d, kk, rfl, rfl, rfl, rfl, ⟨xs, .inl (h1.imp (·.2) (fun ⟨o, q⟩ => ⟨o, q.2⟩)), h2, h3, h4⟩, hy, q, q2, fun v hv => k.val hv⟩
  · cases e
/-! ### one's own as the second operand -/
def flatD : D → Bool
  | .non => true
  | .bl _ => true
  | .int _ => true
  | .str _ => true
  | _ => false
theorem flat_rep {w : Wd} {O O' : Av} {H H' : Hp} {d : D} {v : V} (h : flatD d = true) (r : Rep w O H d v) : Rep w O' H' d v := by
  cases d <;> simp only [flatD] at h <;> first | (simp only [Rep] at r ⊢; exact r) | cases h
theorem Go.flat {w : Wd} {O O' : Av} {H : Hp} {z : Vl} {Q : VK} (h : z.2 = false ∧ flatD z.1 = true) (g : Go w O H z Q) : Go w O' H z Q := fun v H' gr ga => by
  obtain ⟨d, b⟩ := z
  obtain ⟨h1, h2⟩ := h
  have h1 : b = false := h1
  subst h1
  exact g v H' gr (flat_rep h2 (show Rep w O' H' d v from ga))
theorem dataOf_is {m : Mu} {d : D} (h : dataOf m = some d) : m.is d := by
  cases m <;> simp only [dataOf] at h <;> cases h <;> rfl
def mOp2O (f : D → D → Option Vl) (ma : ME) (i : Nat) : ME := fun ρ => (ma ρ).bind fun x ρ1 => match muOf i ρ1 with
  | some (_, m) => lift ((dataOf m).bind (f x.1)) ρ1
  | none => .stuck
def Flat2 (f : D → D → Option Vl) : Prop := ∀ x y z, f x y = some z → z.2 = false ∧ flatD z.1 = true
theorem sim_op2O {w : Wd} {W : WX} {r : R2} {f : D → D → Option Vl} {i : Nat} {ta : TE} {ma : ME} (hl : Op2 w r f) (hf : Flat2 f) (ha : Sim w W ta ma) : Sim w W (tOp r ta (tVar i)) (mOp2O f ma i) := fun F O ρ σ H Q e R hh => by
  subst e
  refine ha.bind rfl R hh fun x v ρ1 O1 H1 st1 R1 rx h1 => ?_
  split at h1
  · rename_i s m q
    obtain ⟨e0, g0⟩ := muOf_some q
    obtain ⟨a, ea, oa, ma'⟩ := R1.muAt e0 g0
    cases ed : dataOf m with
    | none => rw [ed] at h1; exact h1.elim
    | some d =>
      rw [ed] at h1
      simp only [Option.bind_some] at h1
      cases ez : f x.1 d with
      | none => rw [ez] at h1; exact h1.elim
      | some z =>
        rw [ez] at h1
        have rd : Rep F.w (off O1 a) H1 d (.ref a) := (ma'.step off_step rfl).rep (fun q => q.2 rfl) (dataOf_is ed)
        have rx' : Rep F.w (off O1 a) H1 x.1 v := Rep.step off_step _ _ rx
        exact ⟨_, ea, hl (off O1 a) H1 x.1 d z v _ Q (fun b hb => R1.dom b hb.1) ez rx' rd (Go.flat (hf _ _ _ ez) (h1.go st1 R1))⟩
  · exact h1.elim
theorem flat_inK (neg : Bool) : Flat2 (inK neg) := fun x y z h => by
  unfold inK at h
  split at h
  · split at h
    · cases h; exact ⟨rfl, rfl⟩
    · split at h
      · cases q : tkD x with
        | none => rw [q] at h; cases h
        | some k => rw [q] at h; cases h; exact ⟨rfl, rfl⟩
      · cases h
  · cases q : tkD x with
    | none => rw [q] at h; cases h
    | some k => rw [q] at h; cases h; exact ⟨rfl, rfl⟩
  · cases h
section
variable {w : Wd} {W : WX} {X : Cx} {pos p : Pos} {x : Str} {a b o i : Expr} {ma mb mk mv : ME} {n : Nat}
theorem room8 (hr : Room n X.A) : X.A.units + 9 < cLine := by
  have := hr.units
  omega
theorem pmt_inK (hK : w.K = X.K) (hW : w.wo = X.w) (hr : Room n X.A) (ha : PM X w W a ma) (hb : PM X w W b mb) (hm : behindInMarks .In b = false := by rfl) : PMT X w W (.Compare a [.In] [b] pos) (mTest (mOp2 (inK false) ma mb)) := pmt_cmp (op_inK (room8 hr)) (hK ▸ hW ▸ o2_inK false) ha hb hm
theorem pm_getK (hK : w.K = X.K) (hW : w.wo = X.w) (hr : Room n X.A) (ho : PM X w W o ma) (hi : PM X w W i mb) (hs : NoSl i := by exact fun _ _ => rfl) : PM X w W (.Subscript o i pos) (mOp2 getK ma mb) := by
  obtain ⟨ta, pa, sa⟩ := ho
  obtain ⟨tb, pb, sb⟩ := hi
  exact ⟨_, pe_getK (room8 hr) pa pb hs, sim_op2 (hK ▸ hW ▸ o2_getK) sa sb⟩
theorem pmt_notInKO (i : Nat) (hK : w.K = X.K) (hW : w.wo = X.w) (hr : Room n X.A) (ha : PM X w W a ma) (hN : X.N[i]? = some x := by rfl) (hv : Vis X.env.scope x := by first | exact Or.inl rfl | exact Or.inr (Or.inl rfl) | exact Or.inr (Or.inr rfl)) (hd : (x == ("__debug__" : Str)) = false := by decide)
    (hcd : (x == ("__classdict__" : Str)) = false := by decide) (hm : behindInMarks .NotIn (.Name x p) = false := by rfl) : PMT X w W (.Compare a [.NotIn] [.Name x p] pos) (mTest (mOp2O (inK true) ma i)) := by
  obtain ⟨ta, pa, sa⟩ := ha
  exact ⟨_, pt_cmpR (op_notInK (room8 hr)) pa (pv i hN hv hd hcd) hm, simt_test (sim_op2O (hK ▸ hW ▸ o2_inK true) (flat_inK true) sa)⟩
/-- d[k] = v, k a tuple, d one's own -/
def mSetKeyN (i : Nat) (mk mv : ME) : MS := fun ρ => (mv ρ).bind fun y ρ1 => match muOf i ρ1 with
  | none => .stuck
  | some _ => (mk ρ1).bind fun k ρ2 => match muOf i ρ2, tkD k.1 with
    | some (s, .dct [] []), some kk => .ok .nx (ρ2.set i (s.put (.dkt [k.1] [y.1])))
    | some (s, .dkt ks ds), some kk => if ks.length < sizeLine then .ok .nx (ρ2.set i (s.put (.dkt (putKN ks kk k.1) (putDN ks ds kk y.1)))) else .stuck
    | _, _ => .stuck
theorem nkL_len : ∀ {ks : List D} {l : List NestedKey}, nkL ks = some l → l.length = ks.length
  | [], l, e => by
    simp only [nkL] at e
    cases e
    rfl
  | d :: ds, l, e => by
    simp only [nkL] at e
    cases q1 : nkD d with
    | none => rw [q1] at e; cases e
    | some k1 =>
      rw [q1] at e
      simp only [Option.bind_some] at e
      cases q2 : nkL ds with
      | none => rw [q2] at e; cases e
      | some ks' =>
        rw [q2] at e
        cases e
        simp [nkL_len q2]
theorem pms_setKeyN (i : Nat) {k v : Expr} {spos : Pos} (hK : w.K = X.K) (hW : w.wo = X.w) (hr : Room n X.A) (hv : PM X w W v mv) (hk : PM X w W k mk) (hN : X.N[i]? = some x := by rfl) (hvi : Vis X.env.scope x := by first | exact Or.inl rfl | exact Or.inr (Or.inl rfl) | exact Or.inr (Or.inr rfl)) (hd : (x == ("__debug__" : Str)) = false := by decide)
    (hcd : (x == ("__classdict__" : Str)) = false := by decide) (hs : swapsWith v (some (.Subscript (.Name x p) k pos)) spos.line X.env = pure false := by rfl) : PMS X w W (.Assign [.Subscript (.Name x p) k pos] v spos) (mSetKeyN i mk mv) := by
  obtain ⟨tv, pv', sv⟩ := hv
  obtain ⟨tk, pk, sk⟩ := hk
  refine ⟨_, ps_putN (room8 hr) (pv i hN hvi hd hcd) pk pv' hs, fun F O ρ σ H E hw R hh => ?_⟩
  refine sv.bindS hw R hh fun y u ρ1 O1 H1 st1 R1 rv h2 => ?_
  subst hw
  obtain ⟨O2, s2, R2, r2, s3⟩ := VlAt.release st1 R1 R.doh rv
  have h2 := h2.later s3
  split at h2
  · exact h2.elim
  · rename_i sm q0
    obtain ⟨e0, g0⟩ := muOf_some (s := sm.1) (m := sm.2) q0
    obtain ⟨a, ea, oa, _⟩ := R2.muAt e0 g0
    refine ⟨.ref a, ea, ?_⟩
    refine sk.bindS rfl R2 h2 fun kk uk ρ2 O3 H3 st3 R3 rk h3 => ?_
    obtain ⟨O4, s4, R4, r4, s5⟩ := VlAt.release st3 R3 R2.doh rk
    have h3 := h3.later s5
    split at h3
    · rename_i s kq q1 ek
      obtain ⟨e1, g1⟩ := muOf_some q1
      obtain ⟨a', ea', oa', kvs, m1, m2, m3⟩ := R4.muAt e1 g1
      rw [ea] at ea'
      cases ea'
      have m2 : kvs.map (·.1) = [] := m2
      have m2 : kvs = [] := List.map_eq_nil_iff.mp m2
      subst m2
      obtain ⟨b, rfl⟩ := tk_ref ek r4
      obtain ⟨n1, n2⟩ := tkD_some ek
      have r2' := Rep.step s4 _ _ r2
      have st := mut_step (o' := DkO X.w a (putX [] kq b u)) (H := H3) oa'
      obtain ⟨p1, p2, p3⟩ := put_repN (w := F.w) (O := O4) (H := H3) (ks := []) (ds := []) (xs := []) (k := kq) (kd := kk.1) (d := y.1) (v := u) rfl (by simp only [List.map_nil, RepL]) (by simp only [List.map_nil, RepL]) n1 r4 r2'
      refine ⟨a, _, rfl, ⟨F.w, O4, b, [], [], kk.1, kq, hK, hW, rfl, .inr ⟨rfl, m1⟩, rfl, by simp only [List.map_nil, RepL], r4, ek, by show 0 < sizeLine; decide, rfl⟩, ?_⟩
      refine h3 O4 σ _ st (R4.mut e1 g1 ea oa' ⟨_, by rw [hW]; exact upd_same, p1, RepL.step st _ _ p2, RepL.step st _ _ p3⟩)
    · rename_i s ks ds kq q1 ek
      obtain ⟨e1, g1⟩ := muOf_some q1
      obtain ⟨a', ea', oa', xs, m1, m2, m3, m4⟩ := R4.muAt e1 g1
      rw [ea] at ea'
      cases ea'
      split at h3
      · rename_i hlen
        obtain ⟨b, rfl⟩ := tk_ref ek r4
        obtain ⟨n1, n2⟩ := tkD_some ek
        have r2' := Rep.step s4 _ _ r2
        have st := mut_step (o' := DkO X.w a (putX xs kq b u)) (H := H3) oa'
        obtain ⟨p1, p2, p3⟩ := put_repN m2 m3 m4 n1 r4 r2'
        have hl := nkL_len m2
        rw [List.length_map] at hl
        refine ⟨a, _, rfl, ⟨F.w, O4, b, ks, xs, kk.1, kq, hK, hW, rfl, .inl (by rw [← hW]; exact m1), m2, m3, r4, ek, by rw [hl]; exact hlen, rfl⟩, ?_⟩
        refine h3 O4 σ _ st (R4.mut e1 g1 ea oa' ⟨_, by rw [hW]; exact upd_same, p1, RepL.step st _ _ p2, RepL.step st _ _ p3⟩)
      · exact h3.elim
    · exact h3.elim
/-! ### len(d) -/
end
end PM

/-! rules wanted for tables: sets of whole numbers, list(range(n)), zip of tuples, {..} with values of any kind, list(d.values()), for over a dict, dict(pairs) with a key twice, str(i), bool(b) -/
namespace PM
open PySem PySem.Spec PyProof.Rows L2
/-! ### sets of whole numbers -/
def intsOf : D → Option (List Int)
  | .tup ds => intsD ds
  | .lst ds => intsD ds
  | _ => none
theorem ints_rep {w : Wd} {K : PySem.W.Frag} {O : Av} {H : Hp} {x : D} {v : V} {zs : List Int} (hK : w.K = K) (h : intsOf x = some zs) (r : Rep w O H x v) : ∃ a, v = .ref a ∧ (SqL K H a (zs.map V.int) ∨ SqT K H a (zs.map V.int)) := by
  unfold intsOf at h
  split at h
  · simp only [Rep] at r
    obtain ⟨a, vs, rfl, h1, h2⟩ := r
    rw [intsD_rep h h2] at h1
    exact ⟨a, rfl, .inr (hK ▸ sq_of_rep h1)⟩
  · simp only [Rep] at r
    obtain ⟨a, vs, rfl, h1, h2⟩ := r
    rw [intsD_rep h h2] at h1
    exact ⟨a, rfl, .inl (hK ▸ sl_of_rep h1)⟩
  · cases h
def lenSetI (x : D) : Option Vl := (intsOf x).bind fun zs => if zs.length + 1 < scanBound ∧ (dedI zs).length < 4000 then some (dI (dedI zs).length) else none
section
variable {w : Wd} {W : WX} {X : Cx} {pos p p2 pos2 : Pos} {e : Expr} {mr : MA}
theorem pm_lenSetI (hK : w.K = X.K) (hg : Gl X "len") (hm : X.mg "len" = none) (hg2 : Gl X "set") (hm2 : X.mg "set" = none) (ha : PMA X w W [e] mr) (hc : X.calm = true := by rfl) (he : starEach [e] X.env = (false, eval e X.env) :: starEach [] X.env := by rfl) (he2 : starEach [Expr.Call (.Name "set" p2) [e] [] pos2] X.env = (false, eval (.Call (.Name "set" p2) [e] [] pos2) X.env) :: starEach [] X.env := by rfl) :
    PM X w W (.Call (.Name "len" p) [.Call (.Name "set" p2) [e] [] pos2] [] pos) (mCall (one1 lenSetI) mr) := by
  obtain ⟨tr, pr, sr⟩ := ha
  refine ⟨_, pe_callB cr_lenI hg hm (by decide +kernel) (pa_cons (pe_callTy (cr_setI hc) hg2 hm2 (by decide +kernel) pr (by decide) (by decide) he) pa_nil he2) (by decide) (by decide) he2, ?_⟩
  refine sim_call (r := fun xs H Q => rSetI X.K X.w xs H fun v H1 => rLenI X.w [v] H1 Q) (fun O H xs z vs Q dm e rs k => ?_) sr
  obtain ⟨x, rfl, ez⟩ := one1_some e
  obtain ⟨v, rfl, hv⟩ := repl1 rs
  unfold lenSetI at ez
  cases q : intsOf x with
  | none => rw [q] at ez; cases ez
  | some zs =>
    rw [q] at ez
    simp only [Option.bind_some] at ez
    split at ez
    · rename_i hl
      cases ez
      obtain ⟨a, rfl, hq⟩ := ints_rep hK q hv
      refine ⟨a, zs, rfl, hq, hl.1, fun p1 n hn hp => ⟨p1, _, n, rfl, upd_same, by omega, ?_⟩⟩
      subst hn
      exact k _ _ (Grow.new hp) (by simp only [GoAt, dI, Rep])
    · cases ez
/-! ### str(i), bool(b) -/
end
/-! ### list(range(n)) -/
section
variable {w : Wd} {W : WX} {X : Cx} {pos p p2 pos2 : Pos} {e : Expr} {mr : MA}
end
/-! ### zip of two tuples -/
theorem walk_zipT {K : PySem.W.Frag} {a b : Addr} {xs ys : List V} {n : Nat} (hn : n = min xs.length ys.length) : Walk (RZ.ItzT K a b) n (fun H => SqT K H a xs ∧ SqT K H b ys) (YPair (fun i => xs[i]?) (fun i => ys[i]?)) := by
  subst hn
  refine ⟨fun i _ hi q => ?_, fun _ q => ⟨xs, ys, q.1, q.2, by omega⟩, fun i H v H' _ q y => ?_⟩
  · have h1 : i < xs.length := by omega
    have h2 : i < ys.length := by omega
    exact ⟨xs, ys, xs[i], ys[i], q.1, q.2, by simp [h1], by simp [h2]⟩
  · obtain ⟨T, x, z, h1, h2, h3, h4, h5⟩ := y
    exact ⟨T, x, z, h1, h2, h3, h4 xs q.1, h5 ys q.2⟩
def zipDD : List D → List D → List D
  | x :: xs, y :: ys => .tup [x, y] :: zipDD xs ys
  | _, _ => []
theorem zipDD_len : ∀ xs ys, (zipDD xs ys).length = min xs.length ys.length
  | [], ys => by simp [zipDD]
  | x :: xs, [] => by simp [zipDD]
  | x :: xs, y :: ys => by
    simp only [zipDD, List.length_cons, zipDD_len xs ys]
    omega
theorem zipDD_drop : ∀ (i : Nat) (xs ys : List D) (x y : D), xs[i]? = some x → ys[i]? = some y → (zipDD xs ys).drop i = .tup [x, y] :: (zipDD xs ys).drop (i + 1)
  | _, [], _, _, _, e, _ => by simp at e
  | _, _ :: _, [], _, _, _, e => by simp at e
  | 0, a :: xs, b :: ys, x, y, e1, e2 => by
    simp at e1 e2
    subst e1 e2
    simp [zipDD]
  | i + 1, a :: xs, b :: ys, x, y, e1, e2 => by
    have := zipDD_drop i xs ys x y (by simpa using e1) (by simpa using e2)
    simp only [zipDD, List.drop_succ_cons]
    exact this
def itZT : List D → Option (List D)
  | [.tup xs, .tup ys] => some (zipDD xs ys)
  | _ => none
section
variable {w : Wd} {W : WX} {X : Cx} {pos p tpos : Pos} {elts : List Expr} {kk : Nat} {a b : Expr} {mr : MA}
theorem pmi_zipT (hK : w.K = X.K) (hg : Gl X "zip") (hm : X.mg "zip" = none) (ha : PMA X w W [a, b] mr) (hs : starEach [a, b] X.env = (false, eval a X.env) :: starEach [b] X.env := by rfl) (hpl : (backTo pos (starEach [b] X.env)).any (·.1) = false := by rfl) : PMI X w W (.Tuple elts kk tpos) (.Call (.Name "zip" p) [a, b] [] pos) (mItA itZT mr) := by
  obtain ⟨t, pa, s⟩ := ha
  refine ⟨_, RZ.pi_zipA hg hm pa hs hpl, fun F O ρ σ H R hw R0 hh => ?_⟩
  subst hw
  refine s.bind rfl R0 hh fun xs vs ρ1 O1 H1 st R1 rs h1 => ?_
  cases q : itZT xs with
  | none => rw [q] at h1; exact h1.elim
  | some ds =>
    rw [q] at h1
    unfold itZT at q
    split at q
    · rename_i xs ys
      cases q
      obtain ⟨v, u, rfl, r1, r2⟩ := repl2 rs
      simp only [Rep] at r1 r2
      obtain ⟨c1, vs1, rfl, q1, r1⟩ := r1
      obtain ⟨c2, vs2, rfl, q2, r2⟩ := r2
      refine ⟨c1, c2, vs1, vs2, rfl, .inr ⟨hK ▸ sq_of_rep q1, hK ▸ sq_of_rep q2, h1 O1 H1 _ st R1 ?_⟩⟩
      have hl : (zipDD xs ys).length = min vs1.length vs2.length := by rw [zipDD_len, r1.length, r2.length]
      refine ⟨_, _, walk_zipT hl, fun O' H' st' => ⟨hK ▸ sq_of_rep (q1.imp (At.step st') id), hK ▸ sq_of_rep (q2.imp (At.step st') id)⟩, fun i O' H' x H'' hi st' dm y => ?_⟩
      obtain ⟨T, x1, y1, rfl, hT, rfl, e1, e2⟩ := y
      obtain ⟨d1, f1, g1⟩ := r1.at e1
      obtain ⟨d2, f2, g2⟩ := r2.at e2
      have gr : Grow H' (upd H' T (.tup [x1, y1])) := Grow.new hT
      have k1 : xs[i]? = some d1 := by
        have := congrArg List.head? f1
        simpa [List.head?_drop] using this
      have k2 : ys[i]? = some d2 := by
        have := congrArg List.head? f2
        simpa [List.head?_drop] using this
      refine ⟨gr, .tup [d1, d2], zipDD_drop i xs ys d1 d2 k1 k2, ?_⟩
      simp only [Rep, RepL]
      exact ⟨T, _, rfl, .inl ⟨fun z => dm T z hT, upd_same⟩, x1, _, rfl, Rep.step (st'.trans gr.step) _ _ g1, y1, _, rfl, Rep.step (st'.trans gr.step) _ _ g2, rfl⟩
    · cases q
end
/-! ### {'k': e, ..} -/
section
variable {w : Wd} {W : WX} {X : Cx} {pos p : Pos} {z : Str} {j : Nat} {v : Expr} {zs : List Str} {ks : List (Option Expr)} {vs : List Expr} {mv : ME} {mr : MA}
end
/-! ### list(d.values()) -/
section
variable {X : Cx} {e : Expr} {te : TE} {p apos cpos pos : Pos}
end
/-! ### for k in d -/
section
variable {w : Wd} {W : WX} {X : Cx} {pos pd : Pos} {tg : Expr} {body : List Stmt} {mb : MS} {g : MG} {js : List Nat} {x : Str}
end
/-! ### dict(pairs), a key perhaps twice -/
section
variable {w : Wd} {W : WX} {X : Cx} {pos p : Pos} {e : Expr} {mr : MA}
end
/-! ### enumerate(list) -/
def itEL : List D → Option (List D)
  | [.lst ds] => some (enumL 0 ds)
  | _ => none
section
variable {w : Wd} {W : WX} {X : Cx} {pos p tpos : Pos} {e : Expr} {mr : MA} {elts : List Expr} {kk : Nat}
theorem pmi_enumL (hK : w.K = X.K) (hg : Gl X "enumerate") (hm : X.mg "enumerate" = none) (ha : PMA X w W [e] mr) (hs : starEach [e] X.env = [(false, eval e X.env)] := by rfl) : PMI X w W (.Tuple elts kk tpos) (.Call (.Name "enumerate" p) [e] [] pos) (mItA itEL mr) := by
  obtain ⟨t, pa, sa⟩ := ha
  refine ⟨_, pi_enum hg hm pa hs, fun F O ρ σ H R hw R0 hh => ?_⟩
  subst hw
  refine sa.bind rfl R0 hh fun xs vs ρ1 O1 H1 st R1 rs h1 => ?_
  cases q : itEL xs with
  | none => rw [q] at h1; exact h1.elim
  | some zs =>
    rw [q] at h1
    unfold itEL at q
    split at q
    · rename_i ds
      cases q
      obtain ⟨v, rfl, rv⟩ := repl1 rs
      simp only [Rep] at rv
      obtain ⟨a, us, rfl, h2, h3⟩ := rv
      refine ⟨a, us, rfl, hK ▸ sl_of_rep h2, h1 O1 H1 _ st R1 ?_⟩
      refine ⟨_, _, by rw [enumL_len, ← h3.length]; exact walk_enum (K := X.K) (a := a) (xs := us), fun O' H' s' => (show SqL X.K H' a us from hK ▸ sl_of_rep (At.step s' h2)), fun i O' H' x H'' hi s' dm hy => ?_⟩
      obtain ⟨T, n, y, rfl, hT, rfl, e1, e2⟩ := hy
      cases e1
      rw [enumL_len] at hi
      obtain ⟨y', e3, r3⟩ := h3.get (List.getElem?_eq_getElem hi)
      have e2 : us[i]? = some y := e2
      rw [e2] at e3
      cases e3
      refine ⟨Grow.new hT, _, enumL_drop i 0 ds _ (List.getElem?_eq_getElem hi), ?_⟩
      have s2 : Step O1 H1 O' (upd H' T (.tup [.int (i : Nat), y])) := s'.trans (Grow.new hT).step
      simp only [Rep, RepL]
      refine ⟨T, [.int (i : Nat), y], rfl, .inl ⟨fun q => dm T q hT, upd_same⟩, .int (i : Nat), [y], rfl, by simp, y, [], rfl, Rep.step s2 _ _ r3, rfl⟩
    · cases q
end
/-! ### a list or a tuple -/
def itLT : D → Option (List D)
  | .lst ds => some ds
  | .tup ds => some ds
  | _ => none
theorem PI.or {X : Cx} {tg it : Expr} {w1 w2 : TI} (h1 : PI X tg it w1) (h2 : PI X tg it w2) : PI X tg it (fun σ H R => w1 σ H R ∨ w2 σ H R) := ⟨fun pins s σ H R I q => q.elim (h1.run pins s σ H R I) (h2.run pins s σ H R I)⟩
theorem pmi_seq {w : Wd} {W : WX} {X : Cx} {it tg : Expr} {m : ME} (hK : w.K = X.K) (h : PM X w W it m) : PMI X w W tg it (mIt itLT m) := by
  obtain ⟨w1, p1, s1⟩ := pmi_list (tg := tg) hK h
  obtain ⟨w2, p2, s2⟩ := pmi_tup (tg := tg) hK h
  refine ⟨_, PI.or p1 p2, fun F O ρ σ H R hw R0 hh => ?_⟩
  unfold mIt at hh
  cases e : m ρ with
  | stuck => rw [e] at hh; exact hh.elim
  | exc x ρ1 =>
    refine .inl (s1 F O ρ σ H R hw R0 ?_)
    unfold mIt
    rw [e] at hh ⊢
    exact hh
  | ok x ρ1 =>
    rw [e] at hh
    have hh : Hold F W O σ H (RIt F.w) R (lift (itLT x.1) ρ1) := hh
    cases q : x.1 with
    | lst ds =>
      refine .inl (s1 F O ρ σ H R hw R0 ?_)
      unfold mIt
      rw [e]
      show Hold F W O σ H (RIt F.w) R (lift (itL x.1) ρ1)
      rw [q] at hh ⊢
      exact hh
    | tup ds =>
      refine .inr (s2 F O ρ σ H R hw R0 ?_)
      unfold mIt
      rw [e]
      show Hold F W O σ H (RIt F.w) R (lift (itT x.1) ρ1)
      rw [q] at hh ⊢
      exact hh
    | _ => rw [q] at hh; exact hh.elim
/-! ### x, y = e, []: y one's own, x not -/
section
variable {w : Wd} {W : WX} {X : Cx} {x y : Str} {p pos : Pos} {a : Expr} {m : ME}
end
end PM

/-! PMOpX: x & y and ~x of instances with own methods. -/
namespace PM
open PySem PySem.Spec PyProof.Rows L2
section
variable {X : Cx} {w : Wd} {W : WX} {pos : Pos} {e e' : Expr} {m m' : ME}
end
end PM

/-! PMDspN: {k: v}, k a tuple. -/
namespace PM
open PySem PySem.Spec PyProof.Rows L2
section
variable {X : Cx} {w : Wd} {W : WX} {pos : Pos} {k v : Expr} {mk mv : ME} {tk tv : TE}
def tDispN (K : PySem.W.Frag) (wo : World) (tk tv : TE) : TE := fun σ H Q => ∀ p, H p = none → tk σ (upd H p (.dK [])) fun x H1 => tv σ H1 fun y H2 => ∃ (w : Wd) (O : Av) (b : Addr) (kd : D) (kk : NestedKey), w.K = K ∧ w.wo = wo ∧ x = .ref b ∧ H2 p = some (.dK []) ∧ Rep w O H2 kd x ∧ tkD kd = some kk ∧ Q (.ref p) (upd H2 p (DkO wo p [(kk, b, y)]))
theorem pe_dispN (hu : X.A.units + 9 < cLine) (hk : PE X k tk) (hv : PE X v tv) : PE X (.Dict [some k] [v] pos) (tDispN X.K X.w tk tv) := by
  refine ⟨fun pins s σ H Q I q => ?_⟩
  have hn := I.hok.fresh (Nat.le_refl s.heap.objs.size)
  have I1 := I.laid (a := s.heap.objs.size) (o := .dK []) (h' := s.heap.push { cls := .type "dict", data := .dict #[] }) (t' := s.toks) (fun _ _ q => Heap.get?_push_of_some _ q) (Nat.le_refl _) (dk_empty s.heap I.big)
  have hshape : (evalEachOpt [some k] X.env).zip ((evalEach [v] X.env).map fun v => do let x ← v; standAt pos; pure x) = (pairTrees [some k] [v] X.env pos).map fun p => (some p.1, p.2) := zip_pairTrees [some k] [v] X.env pos rfl rfl
  rw [arm_eval_Dict, hshape, dictDisplay_pairs (pairTrees [some k] [v] X.env pos) (by intro z; cases z) (by show (1 : Nat) < 17; decide)]
  refine wpAny_bind (wpAny_standAt (wpAny_bind (wpAny_subDictH (knd := nestedKind X.prog X.w) (Q := fun d s' => wpAny (model X.prog X.w) X.A (pure (Value.ref d)) (EP X pins σ Q) X.xe s') (show X.A.units + 8 < cLine by omega) (by show 1 ≤ 15; decide) ?_)))
  refine pairTrees_cons_walk (thn (hk.run pins _ σ _ _ I1 (q _ hn)) fun u s1 ⟨x, H1, I2, rx, q1⟩ => thn (hv.run pins s1 σ H1 _ I2 q1) fun r s2 ⟨y, H2, I3, ry, q2⟩ => pairTrees_nil_walk ?_)
  obtain ⟨w, O, b, kd, kk, hK, hW, rfl, e, r0, hkk, q3⟩ := q2
  obtain rfl : u = Value.ref b := rx
  obtain ⟨n1, n2⟩ := tkD_some hkk
  obtain ⟨z1, z2, z0, ys, z3, z4⟩ := dk_heap (w := w) (O := O) (ks := []) (xs := []) I3 hK hW (.inr ⟨rfl, .inl e⟩) rfl (by simp only [List.map_nil, RepL])
  cases z3
  refine ⟨[(kk, b, r)], ⟨rfl, rfl, ⟨nest_of I3 hK kd kk _ _ n1 r0 rfl, n2⟩, trivial⟩, z4, fun h' tk' dd' hs => wpAny_pure ?_⟩
  obtain ⟨o, es, ep, hq, g2, g3, g4, _, g5⟩ := dd'
  have mu : Mut (H2 s.heap.objs.size) := by rw [e]; exact True.intro
  have new : DkP X.w s.heap.objs.size [(kk, b, y)] h' := ⟨by show 1 ≤ sizeLine; decide, z2, fun x hx => by
    rw [List.mem_singleton] at hx
    subst hx
    exact n2, [(kk, b, r)], .cons ⟨rfl, rfl, ry⟩ .nil, o, es, ep, hq, g2, g3, g4, g5⟩
  have ok : ObjOk X.prog X.w (upd H2 s.heap.objs.size (DkO X.w s.heap.objs.size [(kk, b, y)])) h' s.heap.objs.size (DkO X.w s.heap.objs.size [(kk, b, y)]) := ⟨new, ⟨o, hq⟩, dkP_stays⟩
  exact ⟨.ref s.heap.objs.size, _, d_write I3 mu hs ⟨o, hq⟩ ok, rfl, q3⟩
def mKV (mk mv : ME) : En → Rs (D × D) := fun ρ => (mk ρ).bind fun k ρ1 => (mv ρ1).bind fun y ρ2 => .ok (k.1, y.1) ρ2
theorem simKV (sk : Sim w W tk mk) (sv : Sim w W tv mv) (F : Fr) (O : Av) (ρ : En) (σ : L2.St) (H : Hp) (K : V × V → Hp → Prop) (hw : F.w = w) (R : Rel F O ρ σ H)
    (hh : Hold F W O σ H (fun _ O' H' (p : V × V) (q : D × D) => Rep F.w O' H' q.1 p.1 ∧ Rep F.w O' H' q.2 p.2) K (mKV mk mv ρ)) : tk σ H fun x H1 => tv σ H1 fun y H2 => K (x, y) H2 := by
  subst hw
  refine sk.bind rfl R hh fun x u ρ1 O1 H1 st1 R1 rx h1 => ?_
  have h1' : Hold F W O1 σ H1 (fun _ O' H' (p : V × V) (q : D × D) => Rep F.w O' H' q.1 p.1 ∧ Rep F.w O' H' q.2 p.2) K ((mv ρ1).bind fun y ρ2 => .ok (x.1, y.1) ρ2) := by
    cases e : ((mv ρ1).bind fun y ρ2 => Rs.ok (x.1, y.1) ρ2) with
    | stuck => rw [e] at h1; exact h1
    | exc z ρ2 =>
      rw [e] at h1
      exact fun O2 H2 cls d st2 R2 xa => h1 O2 H2 cls d (st1.trans st2) R2 xa
    | ok q ρ2 =>
      rw [e] at h1
      exact fun O2 H2 ps st2 R2 pa => h1 O2 H2 ps (st1.trans st2) R2 pa
  refine sv.bind rfl R1 h1' fun y u2 ρ2 O2 H2 st2 R2 ry h2 => ?_
  exact h2 O2 H2 (u, u2) st2 R2 ⟨Rep.step st2 _ _ rx, ry⟩
def mDispN (mk mv : ME) : ME := fun ρ => match mKV mk mv ρ with
  | .ok q ρ1 => (match tkD q.1 with
    | some _ => .ok (.dkt [q.1] [q.2], true) ρ1
    | none => .stuck)
  | _ => .stuck
theorem pm_dispN {n : Nat} (hK : w.K = X.K) (hW : w.wo = X.w) (hr : Room n X.A) (hk : PM X w W0 k mk) (hv : PM X w W0 v mv) : PM X w W (.Dict [some k] [v] pos) (mDispN mk mv) := by
  obtain ⟨tk, pk, sk⟩ := hk
  obtain ⟨tv, pv', sv⟩ := hv
  refine ⟨_, pe_dispN (room8 hr) pk pv', fun F O ρ σ H Q hw R hh => ?_⟩
  subst hw
  intro p hp
  have g := Grow.new (o := HO.dK []) hp
  have R1 : Rel F (ins O p) ρ σ (upd H p (.dK [])) := R.guard g hp (by rw [upd_same]; simp)
  have hE : F.He p = none := R.freshE hp
  have hb : ¬ F.B p := fun q => R.bh p q hE
  have ap := R.apart hp
  have Rw := R1.within (d := p) (.inr rfl) ap
  refine simKV sk sv (F.within ρ σ (upd H p (.dK [])) p) (ins O p) ρ σ _ (fun q H2 => ∃ (w : Wd) (O : Av) (b : Addr) (kd : D) (kk : NestedKey), w.K = X.K ∧ w.wo = X.w ∧ q.1 = .ref b ∧ H2 p = some (.dK []) ∧ Rep w O H2 kd q.1 ∧ tkD kd = some kk ∧ Q (.ref p) (upd H2 p (DkO X.w p [(kk, b, q.2)]))) rfl Rw ?_
  unfold mDispN at hh
  cases e : mKV mk mv ρ with
  | stuck => rw [e] at hh; exact hh
  | exc x ρ1 => rw [e] at hh; exact hh.elim
  | ok q ρ1 =>
    rw [e] at hh
    have hh : Hold F W O σ H (RV F σ H) Q (match tkD q.1 with | some _ => .ok (.dkt [q.1] [q.2], true) ρ1 | none => .stuck) := hh
    cases ek : tkD q.1 with
    | none => rw [ek] at hh; exact hh.elim
    | some kk =>
      rw [ek] at hh
      intro O' H' ps st R' pa
      obtain ⟨pa1, pa2⟩ := pa
      obtain ⟨Rf, ob, hd⟩ := R1.without upd_same ap hb R'
      have nw : ¬ ownAt ρ σ p := fun ⟨i, m, e1, e2⟩ => ap i _ e1 rfl e2
      have heD : (F.within ρ σ (upd H p (.dK [])) p).He p ≠ none := by
        show heLess ρ σ (upd H p (.dK [])) p ≠ none
        rw [heLess_not nw, upd_same]
        simp
      have hDi : ∀ i, ¬ F.Io i p := fun i q => hb (R.ib i p q)
      have apE : Apart ρ1 σ p := R'.apartB heD hDi
      have pa1 : Rep F.w O' H' q.1 ps.1 := pa1
      have pa2 : Rep F.w O' H' q.2 ps.2 := pa2
      obtain ⟨b, eb⟩ := tk_ref ek pa1
      obtain ⟨n1, n2⟩ := tkD_some ek
      refine ⟨F.w, O', b, q.1, kk, hK, hW, eb, hd, pa1, ek, ?_⟩
      have ms : Step O' H' O' (upd H' p (DkO X.w p [(kk, b, ps.2)])) := mut_step ob
      refine hh O' _ (.ref p) (((ins_step g hp).trans st).trans ms) (Rf.updG ob apE hE) ⟨p, .dkt [q.1] [q.2], rfl, hp, ob, rfl, ⟨[(kk, b, ps.2)], by rw [hW]; exact upd_same, by simp only [nkL, n1, Option.bind_some, Option.map_some, List.map_cons, List.map_nil], ?_, ?_⟩, apE⟩
      · simp only [List.map_cons, List.map_nil, RepL]
        exact ⟨_, [], rfl, by rw [← eb]; exact Rep.step ms _ _ pa1, rfl⟩
      · simp only [List.map_cons, List.map_nil, RepL]
        exact ⟨_, [], rfl, Rep.step ms _ _ pa2, rfl⟩
/-! ### x = e, x one's own dict with tuples as keys from then on -/
def setN (i : Nat) (x : Vl) (ρ : En) : Option En := match x with
  | (.dkt ks vs, true) => if notIo (ρ[i]?) = true then some (ρ.set i (.own (.dkt ks vs))) else none
  | _ => none
def mAsgN (i : Nat) (m : ME) : MS := fun ρ => (m ρ).bind fun x ρ1 => nxt (setN i x ρ1)
theorem setN_rel {F : Fr} {O0 O : Av} {ρ0 ρ ρ' : En} {σ : L2.St} {H0 H : Hp} {i : Nat} {x : Vl} {v : V} (R0 : Rel F O0 ρ0 σ H0) (R : Rel F O ρ σ H) (h : VlAt F.w σ H0 ρ O H v x) (e : setN i x ρ = some ρ') : Rel F O ρ' (σ.set i (some v)) H := by
  unfold setN at e
  split at e
  · rename_i ks vs
    split at e
    · rename_i hi
      cases e
      unfold VlAt at h
      obtain ⟨a, m', e1, e2, e3, e4, e5, e6⟩ := h
      have z : m' = .dkt ks vs := by
        cases m' <;> simp [Mu.is] at e4 ⊢
        exact ⟨e4.1.symm, e4.2.symm⟩
      subst z
      subst e1
      exact R.setO e5 e3 (R0.freshE e2) e6 hi
    · cases e
  · cases e
theorem pms_setN {i : Nat} {x : Str} {e : Expr} {m : ME} {pos' : Pos} (hN : X.N.Nodup) (hi : X.N[i]? = some x) (hx : Loc X.env.scope x) (he : PM X w W e m) (hs : swapsWith e (some (.Name x pos')) pos.line X.env = pure false := by rfl) (hf : X.fn x = true ∨ X.env.scope.names.lookup x = some .local := by first | exact .inl rfl | exact .inr rfl | assumption) :
    PMS X w W (.Assign [.Name x pos'] e pos) (mAsgN i m) := by
  obtain ⟨te, pe, se⟩ := he
  refine ⟨_, ps_set hN hi hx pe hs hf, fun F O ρ σ H E hw R hh => ?_⟩
  refine se.bindS hw R hh fun x v ρ1 O1 H1 st1 R1 rv h1 => ?_
  show E.nx _ _
  cases q : setN i x ρ1 with
  | none => rw [q] at h1; exact h1.elim
  | some ρ2 =>
    rw [q] at h1
    exact h1 O1 _ H1 (Step.refl _ _) (setN_rel R R1 rv q)
end
/-! ### x, y = e, c: x one's own -/
section
variable {w : Wd} {W : WX} {X : Cx} {x y : Str} {pos : Pos} {a : Expr} {m : ME}
end
/-! ### x, y, z = [], [], [] -/
section
variable {w : Wd} {W : WX} {X : Cx} {x y z : Str}
end
end PM

/-! PMSetTI: sorted(set(..)) of tuples of whole numbers. -/
namespace PM
open PySem PySem.Spec PyProof.Rows L2
/-! ### the one sorted list of unlike rows -/
/-! ### the rows of a list -/
section
variable {w : Wd} {W : WX} {X : Cx} {pos p p2 pos2 : Pos} {e : Expr} {mr : MA}
end
end PM

/-! PMIdxT: xs.index(x) of data. -/
namespace PM
open PySem PySem.Spec PyProof.Rows L2
section
variable {w : Wd} {W : WX} {X : Cx} {apos cpos : Pos} {o e : Expr} {m : ME} {mr : MA}
end
end PM

/-! PMRepL: a list repeated. -/
namespace PM
open PySem PySem.Spec PyProof.Rows L2
section
variable {w : Wd} {W : WX} {X : Cx} {pos p : Pos} {a b : Expr} {ma mb : ME}
def mulL : D → D → Option Vl
  | .lst xs, .int k => if 0 ≤ k ∧ k ≤ 1000 ∧ xs.length ≤ 1000 then some (.lst (List.replicate k.toNat xs).flatten, true) else none
  | _, _ => none
theorem o2_mulL : Op2 w rRep mulL := fun O H x y z vx vy Q dm e hx hy k => by
  cases x <;> cases y <;> simp only [mulL] at e <;> first | (cases e; done) | skip
  split at e
  · rename_i xs n hf
    cases e
    simp only [Rep] at hx hy
    obtain ⟨a, vs, rfl, h1, h2⟩ := hx
    have hl := h2.length
    have a1 : vs.length * n.toNat ≤ 1000 * 1000 := Nat.mul_le_mul (by omega) (by omega)
    have a2 : sizeLine = 16777216 := rfl
    exact ⟨a, n, vs, rfl, hy, h1.2, by omega, by omega, by omega, fun p hp => k.newL (h2.rep n.toNat) hp⟩
  · cases e
theorem pm_mulL (ha : PM X w W a ma) (hb : PM X w W b mb) : PM X w W (.BinOp a .Mult b pos) (mOp2 mulL ma mb) :=
  pm_bin op_rep o2_mulL ha hb
end
end PM

/-! PMZipN: zip of two tuples, walked with a name (the pair stays out while the next one is made). -/
namespace PM
open PySem PySem.Spec PyProof.Rows L2 RZ
open PySem.W (kdx_alive)
abbrev IsZG (h : Heap) (z TI TO : Addr) (f0 : Value) (f : Bool) : Prop :=
  h.get? z = some { cls := .type "zip", dict := none, data := .fields #[f0, .bool f, .bool false, .ref TI, .ref TO], slots := #[] }
section
variable {prog : Program} {w : World} {A : Around} {E : Value → Shared → Prop} {s : Shared}
theorem aliveN {a : Addr} {Q : Option Obj → Shared → Prop} (ho : s.heap.get? a = none) (h : Q none s) : wpAny (model prog w) A (loadIfAlive a) Q E s := by
  have h' : Q (s.heap.get? a) s := by rw [ho]; exact h
  exact fun _ _ _ => h'
theorem free_none {z TI TO : Addr} {f : Bool} {Q : Bool → Shared → Prop} (hz : IsZG s.heap z TI TO .none f) (h : Q true s) : wpAny (model prog w) A (Builtin.SmallTypes.ownedTupleIsFree (.ref z)) Q E s := by
  unfold Builtin.SmallTypes.ownedTupleIsFree
  exact wpAny_bind (wpAny_field hz rfl (x := .none) rfl (wpAny_pure h))
theorem free_dead {z TI TO T : Addr} {f : Bool} {Q : Bool → Shared → Prop} (hz : IsZG s.heap z TI TO (rawInt T) f) (hT : s.heap.get? T = none) (h : Q true s) : wpAny (model prog w) A (Builtin.SmallTypes.ownedTupleIsFree (.ref z)) Q E s := by
  unfold Builtin.SmallTypes.ownedTupleIsFree
  refine wpAny_bind (wpAny_field hz rfl (x := rawInt T) rfl ?_)
  show wpAny _ _ (loadIfAlive ((T : Int).toNat) >>= _) _ _ _
  rw [Int.toNat_natCast]
  refine wpAny_bind (aliveN hT ?_)
  simp only [Option.isNone_none, if_true]
  exact wpAny_pure h
theorem free_held {z TI TO T : Addr} {f : Bool} {oT : Obj} {Q : Bool → Shared → Prop} (hz : IsZG s.heap z TI TO (rawInt T) f) (hT : s.heap.get? T = some oT)
    (h : ∀ h', IsZG h' z TI TO (rawInt T) true → Heap.SameBut z s.heap h' → Q false { s with heap := h' }) : wpAny (model prog w) A (Builtin.SmallTypes.ownedTupleIsFree (.ref z)) Q E s := by
  unfold Builtin.SmallTypes.ownedTupleIsFree
  refine wpAny_bind (wpAny_field hz rfl (x := rawInt T) rfl ?_)
  show wpAny _ _ (loadIfAlive ((T : Int).toNat) >>= _) _ _ _
  rw [Int.toNat_natCast]
  refine wpAny_bind (kdx_alive hT ?_)
  simp only [Option.isNone_some, Bool.false_eq_true, if_false]
  refine wpAny_bind (wpAny_field hz rfl (x := .bool f) rfl ?_)
  cases f with
  | true =>
    rw [if_neg (show ¬ ((Value.bool true != Value.bool true) = true) from Bool.false_ne_true)]
    exact wpAny_pure (h s.heap hz (Heap.SameBut.refl _ _))
  | false =>
    rw [if_pos (show (Value.bool false != Value.bool true) = true from rfl)]
    exact wpAny_bind (wpAny_setField_rec hz (by simp) fun h₁ hz₁ hs₁ => wpAny_pure (h h₁ hz₁ hs₁))
/-- how a zip stands between two turns -/
def ZS (h : Heap) (z TI TO : Addr) : Prop := ∃ (f0 : Value) (f : Bool), IsZG h z TI TO f0 f ∧ (f0 = .none ∨ ∃ T : Addr, f0 = rawInt T)
/-- free: the step goes on -/
def FreeAt (h : Heap) (f0 : Value) : Prop := f0 = .none ∨ ∃ T : Addr, f0 = rawInt T ∧ h.get? T = none
theorem free_at {z TI TO : Addr} {f0 : Value} {f : Bool} {Q : Bool → Shared → Prop} (hz : IsZG s.heap z TI TO f0 f) (hf : FreeAt s.heap f0) (h : Q true s) : wpAny (model prog w) A (Builtin.SmallTypes.ownedTupleIsFree (.ref z)) Q E s := by
  rcases hf with rfl | ⟨T, rfl, hT⟩
  · exact free_none hz h
  · exact free_dead hz hT h
theorem zipG_item {z TI TO i1 i2 l1 l2 : Addr} {k1 k2 : Nat} {xs ys : Array Value} {x y a b f0 : Value} {f : Bool} {Q : Value → Shared → Prop} (D : ZipApart z TI TO i1 i2 l1 l2)
    (hz : IsZG s.heap z TI TO f0 f) (hf : FreeAt s.heap f0) (hTI : IsPair s.heap TI (.ref i1) (.ref i2)) (hTO : IsPair s.heap TO a b)
    (h1 : s.heap.IsTupleIter i1 l1 k1) (h2 : s.heap.IsTupleIter i2 l2 k2) (hl1 : s.heap.IsTuple l1 xs) (hl2 : s.heap.IsTuple l2 ys) (hx : xs[k1]? = some x) (hy : ys[k2]? = some y)
    (hQ : ∀ h', IsZG h' z TI TO (rawInt s.heap.objs.size) false → IsPair h' TO x y → h'.IsTupleIter i1 l1 (k1 + 1) → h'.IsTupleIter i2 l2 (k2 + 1) → IsPair h' s.heap.objs.size x y → h'.objs.size = s.heap.objs.size + 1 →
      (∀ c o, c ≠ z → c ≠ TO → c ≠ i1 → c ≠ i2 → s.heap.get? c = some o → h'.get? c = some o) → Q (.ref s.heap.objs.size) { s with heap := h' }) :
    wpAny (model prog w) A (Builtin.«zip.__next__» ⟨[.ref z], []⟩) (fun fin s' => ∃ v, fin = .done (.ret v) ∧ Q v s') E s := by
  show wpAny _ _ (field (.ref z) 2 >>= _) _ _ _
  refine wpAny_bind (wpAny_field hz rfl (x := .bool false) rfl ?_)
  show wpAny _ _ (field (.ref z) 3 >>= _) _ _ _
  refine wpAny_bind (wpAny_field hz rfl (x := .ref TI) rfl ?_)
  refine wpAny_bind (wpAny_seqItems hTI rfl ?_)
  show wpAny _ _ (Builtin.SmallTypes.ownedTupleIsFree (.ref z) >>= _) _ _ _
  refine wpAny_bind (free_at hz hf ?_)
  simp only [if_true]
  refine wpAny_bind (wpAny_rule ?_)
  refine wpAny_bind (wpAny_field hz rfl (x := .ref TO) rfl ?_)
  refine wpAny_bind (wpAny_setField_rec hz (by simp) fun h₁ hz₁ hs₁ => ?_)
  replace hz₁ : IsZG h₁ z TI TO .ellipsis f := hz₁
  refine wpAny_bind ?_
  simp only [List.zipIdx_cons, List.zipIdx_nil, List.forIn_cons, List.forIn_nil]
  refine wpAny_bind (wpAny_bind (wpAny_onRaise ?_))
  show wpAny _ _ (Builtin.SmallTypes.nextOf (.ref i1) >>= _) _ _ _
  refine wpAny_bind (nextOf_tuple_item (h1.extBut hs₁.extBut D.i1z) (hl1.extBut hs₁.extBut D.l1z) hx fun h₂ h1₂ hs₂ => wpAny_pure ?_)
  have hTO₂ : IsPair h₂ TO a b := hs₂.extBut _ _ D.TOi1 (hs₁.extBut _ _ D.TOz hTO)
  refine wpAny_bind (wpAny_seqItems hTO₂ rfl ?_)
  refine wpAny_bind (wpAny_updateSeq_pair hTO₂ fun h₃ hTO₃ hs₃ => ?_)
  replace hTO₃ : IsPair h₃ TO x b := hTO₃
  refine wpAny_bind (wpAny_letGo (wpAny_pure ?_))
  refine wpAny_bind (wpAny_bind (wpAny_onRaise ?_))
  show wpAny _ _ (Builtin.SmallTypes.nextOf (.ref i2) >>= _) _ _ _
  refine wpAny_bind (nextOf_tuple_item (((h2.extBut hs₁.extBut D.i2z).extBut hs₂.extBut D.i12.symm).extBut hs₃.extBut D.TOi2.symm)
    (((hl2.extBut hs₁.extBut D.l2z).extBut hs₂.extBut D.l2i1).extBut hs₃.extBut D.l2TO) hy fun h₄ h2₄ hs₄ => wpAny_pure ?_)
  have hTO₄ : IsPair h₄ TO x b := hs₄.extBut _ _ D.TOi2 hTO₃
  refine wpAny_bind (wpAny_seqItems hTO₄ rfl ?_)
  refine wpAny_bind (wpAny_updateSeq_pair hTO₄ fun h₅ hTO₅ hs₅ => ?_)
  replace hTO₅ : IsPair h₅ TO x y := hTO₅
  refine wpAny_bind (wpAny_letGo (wpAny_pure (wpAny_pure ?_)))
  refine wpAny_bind (wpAny_seqItems hTO₅ rfl ?_)
  refine wpAny_bind (wpAny_newTuple ?_)
  have hsz : h₅.objs.size = s.heap.objs.size := by rw [hs₅.1, hs₄.1, hs₃.1, hs₂.1, hs₁.1]
  have hz₅ : IsZG h₅ z TI TO .ellipsis f := hs₅.extBut _ _ D.TOz.symm (hs₄.extBut _ _ D.i2z.symm (hs₃.extBut _ _ D.TOz.symm (hs₂.extBut _ _ D.i1z.symm hz₁)))
  have hk₅ : ∀ c o, c ≠ z → c ≠ TO → c ≠ i1 → c ≠ i2 → s.heap.get? c = some o → h₅.get? c = some o := fun c o c1 c2 c3 c4 e =>
    hs₅.extBut _ _ c2 (hs₄.extBut _ _ c4 (hs₃.extBut _ _ c2 (hs₂.extBut _ _ c3 (hs₁.extBut _ _ c1 e))))
  have h1₅ : h₅.IsTupleIter i1 l1 (k1 + 1) := ((h1₂.extBut hs₃.extBut D.TOi1.symm).extBut hs₄.extBut D.i12).extBut hs₅.extBut D.TOi1.symm
  have h2₅ : h₅.IsTupleIter i2 l2 (k2 + 1) := h2₄.extBut hs₅.extBut D.TOi2.symm
  have hzlt : z < h₅.objs.size := Heap.lt_size hz₅
  show wpAny _ _ (Builtin.SmallTypes.ownedTupleHandOut (.ref z) (.ref h₅.objs.size) >>= _) _ _ _
  refine wpAny_bind ?_
  unfold Builtin.SmallTypes.ownedTupleHandOut
  have hz₆ : IsZG (h₅.push { cls := .type "tuple", data := .seq #[x, y] }) z TI TO .ellipsis f := Heap.get?_push_of_some _ hz₅
  refine wpAny_bind (wpAny_setField_rec hz₆ (by simp) fun h₇ hz₇ hs₇ => ?_)
  replace hz₇ : IsZG h₇ z TI TO (rawInt h₅.objs.size) f := hz₇
  refine wpAny_setField_rec hz₇ (by simp) fun h₈ hz₈ hs₈ => ?_
  replace hz₈ : IsZG h₈ z TI TO (rawInt h₅.objs.size) false := hz₈
  have up : ∀ c o, c ≠ z → h₅.get? c = some o → h₈.get? c = some o := fun c o c1 e => hs₈.extBut _ _ c1 (hs₇.extBut _ _ c1 (Heap.get?_push_of_some _ e))
  have hT₈ : IsPair h₈ h₅.objs.size x y := hs₈.extBut _ _ (Nat.ne_of_gt hzlt) (hs₇.extBut _ _ (Nat.ne_of_gt hzlt) (Heap.get?_push_size _ rfl))
  have hz8 : h₈.objs.size = h₅.objs.size + 1 := by rw [hs₈.1, hs₇.1, Heap.size_push]
  rw [hsz] at hz₈ hT₈ hz8
  refine wpAny_pure ⟨_, rfl, ?_⟩
  show Q (.ref h₅.objs.size) _
  rw [hsz]
  exact hQ h₈ hz₈ (up _ _ D.TOz hTO₅) (h1₅.at fun o e => up _ o D.i1z e) (h2₅.at fun o e => up _ o D.i2z e) hT₈ hz8 fun c o c1 c2 c3 c4 e => up c o c1 (hk₅ c o c1 c2 c3 c4 e)
theorem zipG_end {z TI TO i1 i2 l1 l2 : Addr} {k1 k2 : Nat} {xs ys : Array Value} {a b f0 : Value} {f : Bool} {Q : Fin → Shared → Prop} (hh : A.handled = none) (D : ZipApart z TI TO i1 i2 l1 l2)
    (hz : IsZG s.heap z TI TO f0 f) (hf : FreeAt s.heap f0) (hTI : IsPair s.heap TI (.ref i1) (.ref i2)) (hTO : IsPair s.heap TO a b)
    (h1 : s.heap.IsTupleIter i1 l1 k1) (h2 : s.heap.IsTupleIter i2 l2 k2) (hl1 : s.heap.IsTuple l1 xs) (hl2 : s.heap.IsTuple l2 ys) (hend : xs[k1]? = none ∨ ys[k2]? = none)
    (hE : ∀ h' e, (∀ c o, c ≠ z → c ≠ TO → c ≠ i1 → c ≠ i2 → s.heap.get? c = some o → h'.get? c = some o) → (∃ o, h'.get? e = some o ∧ o.cls = .type "StopIteration") → E (.ref e) { s with heap := h' }) :
    wpAny (model prog w) A (Builtin.«zip.__next__» ⟨[.ref z], []⟩) Q E s := by
  show wpAny _ _ (field (.ref z) 2 >>= _) _ _ _
  refine wpAny_bind (wpAny_field hz rfl (x := .bool false) rfl ?_)
  show wpAny _ _ (field (.ref z) 3 >>= _) _ _ _
  refine wpAny_bind (wpAny_field hz rfl (x := .ref TI) rfl ?_)
  refine wpAny_bind (wpAny_seqItems hTI rfl ?_)
  show wpAny _ _ (Builtin.SmallTypes.ownedTupleIsFree (.ref z) >>= _) _ _ _
  refine wpAny_bind (free_at hz hf ?_)
  simp only [if_true]
  refine wpAny_bind (wpAny_rule ?_)
  refine wpAny_bind (wpAny_field hz rfl (x := .ref TO) rfl ?_)
  refine wpAny_bind (wpAny_setField_rec hz (by simp) fun h₁ hz₁ hs₁ => ?_)
  replace hz₁ : IsZG h₁ z TI TO .ellipsis f := hz₁
  refine wpAny_bind ?_
  simp only [List.zipIdx_cons, List.zipIdx_nil, List.forIn_cons, List.forIn_nil]
  refine wpAny_bind (wpAny_bind (wpAny_onRaise ?_))
  show wpAny _ _ (Builtin.SmallTypes.nextOf (.ref i1) >>= _) _ _ _
  cases hx : xs[k1]? with
  | none =>
    refine wpAny_bind (nextOf_tuple_end hh (h1.extBut hs₁.extBut D.i1z) (hl1.extBut hs₁.extBut D.l1z) hx fun h₂ e hs₂ he => ?_)
    obtain ⟨oe, hoe, hce⟩ := he
    have hz₂ : IsZG h₂ z TI TO .ellipsis f := hs₂ _ _ D.i1z.symm hz₁
    have hez : e ≠ z := fun x => by subst x; rw [hz₂] at hoe; cases hoe; simp at hce
    refine wpAny_setField_rec hz₂ (by simp) fun h₃ _ hs₃ => hE h₃ e (fun c o c1 _ c3 _ x => hs₃.extBut _ _ c1 (hs₂ _ _ c3 (hs₁.extBut _ _ c1 x))) ⟨oe, hs₃.extBut _ _ hez hoe, hce⟩
  | some x =>
    have hy : ys[k2]? = none := by rcases hend with h | h; rw [hx] at h; cases h; exact h
    refine wpAny_bind (nextOf_tuple_item (h1.extBut hs₁.extBut D.i1z) (hl1.extBut hs₁.extBut D.l1z) hx fun h₂ h1₂ hs₂ => wpAny_pure ?_)
    have hTO₂ : IsPair h₂ TO a b := hs₂.extBut _ _ D.TOi1 (hs₁.extBut _ _ D.TOz hTO)
    refine wpAny_bind (wpAny_seqItems hTO₂ rfl ?_)
    refine wpAny_bind (wpAny_updateSeq_pair hTO₂ fun h₃ hTO₃ hs₃ => ?_)
    refine wpAny_bind (wpAny_letGo (wpAny_pure ?_))
    refine wpAny_bind (wpAny_bind (wpAny_onRaise ?_))
    show wpAny _ _ (Builtin.SmallTypes.nextOf (.ref i2) >>= _) _ _ _
    refine wpAny_bind (nextOf_tuple_end hh (((h2.extBut hs₁.extBut D.i2z).extBut hs₂.extBut D.i12.symm).extBut hs₃.extBut D.TOi2.symm)
      (((hl2.extBut hs₁.extBut D.l2z).extBut hs₂.extBut D.l2i1).extBut hs₃.extBut D.l2TO) hy fun h₄ e hs₄ he => ?_)
    obtain ⟨oe, hoe, hce⟩ := he
    have hz₄ : IsZG h₄ z TI TO .ellipsis f := hs₄ _ _ D.i2z.symm (hs₃.extBut _ _ D.TOz.symm (hs₂.extBut _ _ D.i1z.symm hz₁))
    have hez : e ≠ z := fun x => by subst x; rw [hz₄] at hoe; cases hoe; simp at hce
    refine wpAny_setField_rec hz₄ (by simp) fun h₅ _ hs₅ => hE h₅ e (fun c o c1 c2 c3 c4 x => hs₅.extBut _ _ c1 (hs₄ _ _ c4 (hs₃.extBut _ _ c2 (hs₂.extBut _ _ c3 (hs₁.extBut _ _ c1 x))))) ⟨oe, hs₅.extBut _ _ hez hoe, hce⟩
theorem zipH_item {z TI TO T i1 i2 l1 l2 : Addr} {f : Bool} {oT : Obj} {k1 k2 : Nat} {xs ys : Array Value} {x y : Value} {Q : Value → Shared → Prop} (D : ZipApart z TI TO i1 i2 l1 l2)
    (hz : IsZG s.heap z TI TO (rawInt T) f) (hT : s.heap.get? T = some oT) (hTI : IsPair s.heap TI (.ref i1) (.ref i2))
    (h1 : s.heap.IsTupleIter i1 l1 k1) (h2 : s.heap.IsTupleIter i2 l2 k2) (hl1 : s.heap.IsTuple l1 xs) (hl2 : s.heap.IsTuple l2 ys) (hx : xs[k1]? = some x) (hy : ys[k2]? = some y)
    (hQ : ∀ h', IsZG h' z TI TO (rawInt T) true → h'.IsTupleIter i1 l1 (k1 + 1) → h'.IsTupleIter i2 l2 (k2 + 1) → IsPair h' s.heap.objs.size x y → h'.objs.size = s.heap.objs.size + 1 →
      (∀ c o, c ≠ z → c ≠ i1 → c ≠ i2 → s.heap.get? c = some o → h'.get? c = some o) → Q (.ref s.heap.objs.size) { s with heap := h' }) :
    wpAny (model prog w) A (Builtin.«zip.__next__» ⟨[.ref z], []⟩) (fun fin s' => ∃ v, fin = .done (.ret v) ∧ Q v s') E s := by
  show wpAny _ _ (field (.ref z) 2 >>= _) _ _ _
  refine wpAny_bind (wpAny_field hz rfl (x := .bool false) rfl ?_)
  show wpAny _ _ (field (.ref z) 3 >>= _) _ _ _
  refine wpAny_bind (wpAny_field hz rfl (x := .ref TI) rfl ?_)
  refine wpAny_bind (wpAny_seqItems hTI rfl ?_)
  show wpAny _ _ (Builtin.SmallTypes.ownedTupleIsFree (.ref z) >>= _) _ _ _
  refine wpAny_bind (free_held hz hT fun h₁ hz₁ hs₁ => ?_)
  simp only [Bool.false_eq_true, if_false]
  refine wpAny_bind ?_
  rw [← Array.forIn_toList]
  simp only [List.forIn_cons, List.forIn_nil]
  refine wpAny_bind (wpAny_bind (wpAny_holding ?_))
  show wpAny _ _ (Builtin.SmallTypes.nextOf (.ref i1) >>= _) _ _ _
  refine wpAny_bind (nextOf_tuple_item (s := { s with heap := h₁ }) (h1.extBut hs₁.extBut D.i1z) (hl1.extBut hs₁.extBut D.l1z) hx fun h₂ h1₂ hs₂ => wpAny_pure ?_)
  refine wpAny_pure ?_
  refine wpAny_bind (wpAny_bind (wpAny_holding ?_))
  show wpAny _ _ (Builtin.SmallTypes.nextOf (.ref i2) >>= _) _ _ _
  refine wpAny_bind (nextOf_tuple_item (s := { s with heap := h₂ }) ((h2.extBut hs₁.extBut D.i2z).extBut hs₂.extBut D.i12.symm) ((hl2.extBut hs₁.extBut D.l2z).extBut hs₂.extBut D.l2i1) hy fun h₃ h2₃ hs₃ => wpAny_pure ?_)
  refine wpAny_pure (wpAny_pure ?_)
  show wpAny _ _ (newTuple [x, y] >>= _) _ _ _
  refine wpAny_bind (wpAny_newTuple ?_)
  have hsz : h₃.objs.size = s.heap.objs.size := by rw [hs₃.1, hs₂.1, hs₁.1]
  have hz₃ : IsZG h₃ z TI TO (rawInt T) true := hs₃.extBut _ _ D.i2z.symm (hs₂.extBut _ _ D.i1z.symm hz₁)
  have hk : ∀ c o, c ≠ z → c ≠ i1 → c ≠ i2 → s.heap.get? c = some o → h₃.get? c = some o := fun c o c1 c2 c3 e => hs₃.extBut _ _ c3 (hs₂.extBut _ _ c2 (hs₁.extBut _ _ c1 e))
  have h1₃ : h₃.IsTupleIter i1 l1 (k1 + 1) := h1₂.extBut hs₃.extBut D.i12
  refine wpAny_pure ⟨_, rfl, ?_⟩
  show Q (.ref h₃.objs.size) _
  have hp : IsPair (h₃.push { cls := .type "tuple", data := .seq #[x, y] }) h₃.objs.size x y := Heap.get?_push_size _ rfl
  have hz4 : (h₃.push { cls := .type "tuple", data := .seq #[x, y] }).objs.size = h₃.objs.size + 1 := Heap.size_push ..
  rw [hsz] at hp hz4 ⊢
  exact hQ _ (Heap.get?_push_of_some _ hz₃) (h1₃.at fun o e => Heap.get?_push_of_some _ e) (h2₃.at fun o e => Heap.get?_push_of_some _ e) hp hz4 fun c o c1 c2 c3 e => Heap.get?_push_of_some _ (hk c o c1 c2 c3 e)
theorem zipH_end {z TI TO T i1 i2 l1 l2 : Addr} {f : Bool} {oT : Obj} {k1 k2 : Nat} {xs ys : Array Value} {Q : Fin → Shared → Prop} (hh : A.handled = none) (D : ZipApart z TI TO i1 i2 l1 l2)
    (hz : IsZG s.heap z TI TO (rawInt T) f) (hT : s.heap.get? T = some oT) (hTI : IsPair s.heap TI (.ref i1) (.ref i2))
    (h1 : s.heap.IsTupleIter i1 l1 k1) (h2 : s.heap.IsTupleIter i2 l2 k2) (hl1 : s.heap.IsTuple l1 xs) (hl2 : s.heap.IsTuple l2 ys) (hend : xs[k1]? = none ∨ ys[k2]? = none)
    (hE : ∀ h' e, (∀ c o, c ≠ z → c ≠ i1 → c ≠ i2 → s.heap.get? c = some o → h'.get? c = some o) → (∃ o, h'.get? e = some o ∧ o.cls = .type "StopIteration") → E (.ref e) { s with heap := h' }) :
    wpAny (model prog w) A (Builtin.«zip.__next__» ⟨[.ref z], []⟩) Q E s := by
  show wpAny _ _ (field (.ref z) 2 >>= _) _ _ _
  refine wpAny_bind (wpAny_field hz rfl (x := .bool false) rfl ?_)
  show wpAny _ _ (field (.ref z) 3 >>= _) _ _ _
  refine wpAny_bind (wpAny_field hz rfl (x := .ref TI) rfl ?_)
  refine wpAny_bind (wpAny_seqItems hTI rfl ?_)
  show wpAny _ _ (Builtin.SmallTypes.ownedTupleIsFree (.ref z) >>= _) _ _ _
  refine wpAny_bind (free_held hz hT fun h₁ hz₁ hs₁ => ?_)
  simp only [Bool.false_eq_true, if_false]
  refine wpAny_bind ?_
  rw [← Array.forIn_toList]
  simp only [List.forIn_cons, List.forIn_nil]
  refine wpAny_bind (wpAny_bind (wpAny_holding ?_))
  show wpAny _ _ (Builtin.SmallTypes.nextOf (.ref i1) >>= _) _ _ _
  cases hx : xs[k1]? with
  | none =>
    refine wpAny_bind (nextOf_tuple_end (s := { s with heap := h₁ }) hh (h1.extBut hs₁.extBut D.i1z) (hl1.extBut hs₁.extBut D.l1z) hx fun h₂ e hs₂ he => ?_)
    exact hE h₂ e (fun c o c1 c2 _ x => hs₂ _ _ c2 (hs₁.extBut _ _ c1 x)) he
  | some x =>
    have hy : ys[k2]? = none := by rcases hend with h | h; rw [hx] at h; cases h; exact h
    refine wpAny_bind (nextOf_tuple_item (s := { s with heap := h₁ }) (h1.extBut hs₁.extBut D.i1z) (hl1.extBut hs₁.extBut D.l1z) hx fun h₂ h1₂ hs₂ => wpAny_pure ?_)
    refine wpAny_pure ?_
    refine wpAny_bind (wpAny_bind (wpAny_holding ?_))
    show wpAny _ _ (Builtin.SmallTypes.nextOf (.ref i2) >>= _) _ _ _
    refine wpAny_bind (nextOf_tuple_end (s := { s with heap := h₂ }) hh ((h2.extBut hs₁.extBut D.i2z).extBut hs₂.extBut D.i12.symm) ((hl2.extBut hs₁.extBut D.l2z).extBut hs₂.extBut D.l2i1) hy fun h₃ e hs₃ he => ?_)
    exact hE h₃ e (fun c o c1 c2 c3 x => hs₃ _ _ c3 (hs₂.extBut _ _ c2 (hs₁.extBut _ _ c1 x))) he
/-- the next one, however the zip stands -/
theorem nextZ_item {z TI TO i1 i2 l1 l2 : Addr} {k1 k2 : Nat} {xs ys : Array Value} {x y a b : Value} {Q : Option Value → Shared → Prop} (D : ZipApart z TI TO i1 i2 l1 l2)
    (hz : ZS s.heap z TI TO) (hTI : IsPair s.heap TI (.ref i1) (.ref i2)) (hTO : IsPair s.heap TO a b)
    (h1 : s.heap.IsTupleIter i1 l1 k1) (h2 : s.heap.IsTupleIter i2 l2 k2) (hl1 : s.heap.IsTuple l1 xs) (hl2 : s.heap.IsTuple l2 ys) (hx : xs[k1]? = some x) (hy : ys[k2]? = some y)
    (hQ : ∀ h', ZS h' z TI TO → (∃ a b, IsPair h' TO a b) → h'.IsTupleIter i1 l1 (k1 + 1) → h'.IsTupleIter i2 l2 (k2 + 1) → IsPair h' s.heap.objs.size x y → h'.objs.size = s.heap.objs.size + 1 →
      (∀ c o, c ≠ z → c ≠ TO → c ≠ i1 → c ≠ i2 → s.heap.get? c = some o → h'.get? c = some o) → Q (some (.ref s.heap.objs.size)) { s with heap := h' }) :
    wpAny (model prog w) A (pyNext (.ref z)) Q E s := by
  obtain ⟨f0, f, hz, hf⟩ := hz
  have hTy : s.TypeIs (.ref z) "zip" := ⟨_, hz, rfl⟩
  have fr : FreeAt s.heap f0 → wpAny (model prog w) A (pyNext (.ref z)) Q E s := fun hf => by
    unfold pyNext
    exact wpAny_bind (wpAny_attempt (wpAny_callSpecial?_slot (name := Str.ofString "__next__") hTy F.slot_zip_next
      (wpAny_call_entry F.slot_zip_next hTy F.entry_zip_next
        (zipG_item D hz hf hTI hTO h1 h2 hl1 hl2 hx hy fun h' a1 a2 a3 a4 a5 a6 a7 => wpAny_pure (hQ h' ⟨_, _, a1, .inr ⟨_, rfl⟩⟩ ⟨_, _, a2⟩ a3 a4 a5 a6 a7)) (F.args_zip_next_1 _))))
  rcases hf with rfl | ⟨T, rfl⟩
  · exact fr (.inl rfl)
  · cases hT : s.heap.get? T with
    | none => exact fr (.inr ⟨T, rfl, hT⟩)
    | some oT =>
      unfold pyNext
      exact wpAny_bind (wpAny_attempt (wpAny_callSpecial?_slot (name := Str.ofString "__next__") hTy F.slot_zip_next
        (wpAny_call_entry F.slot_zip_next hTy F.entry_zip_next
          (zipH_item D hz hT hTI h1 h2 hl1 hl2 hx hy fun h' a1 a3 a4 a5 a6 a7 => wpAny_pure (hQ h' ⟨_, _, a1, .inr ⟨T, rfl⟩⟩ ⟨_, _, a7 _ _ D.TOz D.TOi1 D.TOi2 hTO⟩ a3 a4 a5 a6 fun c o c1 _ c3 c4 e => a7 c o c1 c3 c4 e)) (F.args_zip_next_1 _))))
theorem nextZ_end {z TI TO i1 i2 l1 l2 : Addr} {k1 k2 : Nat} {xs ys : Array Value} {a b : Value} {Q : Option Value → Shared → Prop} (hh : A.handled = none) (D : ZipApart z TI TO i1 i2 l1 l2)
    (hz : ZS s.heap z TI TO) (hTI : IsPair s.heap TI (.ref i1) (.ref i2)) (hTO : IsPair s.heap TO a b)
    (h1 : s.heap.IsTupleIter i1 l1 k1) (h2 : s.heap.IsTupleIter i2 l2 k2) (hl1 : s.heap.IsTuple l1 xs) (hl2 : s.heap.IsTuple l2 ys) (hend : xs[k1]? = none ∨ ys[k2]? = none)
    (hQ : ∀ h', (∀ c o, c ≠ z → c ≠ TO → c ≠ i1 → c ≠ i2 → s.heap.get? c = some o → h'.get? c = some o) → Q none { s with heap := h' }) : wpAny (model prog w) A (pyNext (.ref z)) Q E s := by
  obtain ⟨f0, f, hz, hf⟩ := hz
  have hTy : s.TypeIs (.ref z) "zip" := ⟨_, hz, rfl⟩
  have fr : FreeAt s.heap f0 → wpAny (model prog w) A (pyNext (.ref z)) Q E s := fun hf => by
    unfold pyNext
    refine wpAny_bind (wpAny_attempt (wpAny_callSpecial?_slot (name := Str.ofString "__next__") hTy F.slot_zip_next
      (wpAny_call_entry F.slot_zip_next hTy F.entry_zip_next (zipG_end hh D hz hf hTI hTO h1 h2 hl1 hl2 hend fun h' e hk he => ?_) (F.args_zip_next_1 _))))
    obtain ⟨o, ho, hc⟩ := he
    refine wpAny_bind (wpAny_isInstance (T := "StopIteration") (b := true) ⟨o, ho, hc⟩ isSubtype_stop ?_)
    exact wpAny_pure (hQ _ hk)
  rcases hf with rfl | ⟨T, rfl⟩
  · exact fr (.inl rfl)
  · cases hT : s.heap.get? T with
    | none => exact fr (.inr ⟨T, rfl, hT⟩)
    | some oT =>
      unfold pyNext
      refine wpAny_bind (wpAny_attempt (wpAny_callSpecial?_slot (name := Str.ofString "__next__") hTy F.slot_zip_next
        (wpAny_call_entry F.slot_zip_next hTy F.entry_zip_next (zipH_end hh D hz hT hTI h1 h2 hl1 hl2 hend fun h' e hk he => ?_) (F.args_zip_next_1 _))))
      obtain ⟨o, ho, hc⟩ := he
      refine wpAny_bind (wpAny_isInstance (T := "StopIteration") (b := true) ⟨o, ho, hc⟩ isSubtype_stop ?_)
      exact wpAny_pure (hQ _ fun c o c1 _ c3 c4 e => hk c o c1 c3 c4 e)
theorem iterZ {z TI TO : Addr} {Q : Value → Shared → Prop} (hz : ZS s.heap z TI TO) (h : Q (.ref z) s) : wpAny (model prog w) A (pyIter (.ref z)) Q E s := by
  obtain ⟨f0, f, hz, _⟩ := hz
  have hT : s.TypeIs (.ref z) "zip" := ⟨_, hz, rfl⟩
  refine wpAny_pyIter_slot hT F.slot_zip_iter (wpAny_call_entry F.slot_zip_iter hT F.entry_zip_iter ?_ (F.args_zip_iter_1 _))
  show wpAny _ _ (ret (.ref z)) _ _ s
  exact wpAny_pure ⟨_, rfl, "zip", _, hT, F.slot_zip_next.lookup, h⟩
end
theorem turn_zipN {P : Program} {w : World} {K : PySem.W.Frag} {x : Str} {xpos : Pos} {a b z TI TO i1 i2 : Addr} (D : ZipApart z TI TO i1 i2 a b) :
    Turn P w K (.Name x xpos) (ItzT K a b) [z, TI, TO, i1, i2] z (fun i h => ZS h z TI TO ∧ IsPair h TI (.ref i1) (.ref i2) ∧ (∃ x y, IsPair h TO x y) ∧ h.IsTupleIter i1 a i ∧ h.IsTupleIter i2 b i) where
  mem := by simp
  obj := fun i h st c hc => by
    obtain ⟨⟨f0, f, hz, _⟩, hTI, ⟨x, y, hTO⟩, ⟨o1, e1, _, d1⟩, ⟨o2, e2, _, d2⟩⟩ := st
    have e' : c = z ∨ c = TI ∨ c = TO ∨ c = i1 ∨ c = i2 := by simpa using hc
    rcases e' with q | q | q | q | q
    · rw [q]; exact ⟨_, hz, fun v q => nomatch q⟩
    · rw [q]; exact ⟨_, hTI, fun v q => nomatch q⟩
    · rw [q]; exact ⟨_, hTO, fun v q => nomatch q⟩
    · rw [q]; exact ⟨o1, e1, fun v q => by rw [d1] at q; cases q⟩
    · rw [q]; exact ⟨o2, e2, fun v q => by rw [d2] at q; cases q⟩
  keep := fun i h h' st k => by
    obtain ⟨⟨f0, f, hz, hf⟩, hTI, ⟨x, y, hTO⟩, h1, h2⟩ := st
    exact ⟨⟨f0, f, k z (by simp) _ hz, hf⟩, k TI (by simp) _ hTI, ⟨x, y, k TO (by simp) _ hTO⟩, h1.at fun o q => k i1 (by simp) o q, h2.at fun o q => k i2 (by simp) o q⟩
  item := by
    intro X hP hw hK hc i pins s σ H E I hf st hg
    subst hP hw hK
    obtain ⟨hz, hTI, ⟨x0, y0, hTO⟩, h1, h2⟩ := st
    obtain ⟨xs, ys, x, y, hqx, hqy, hx, hy⟩ := hg
    obtain ⟨its, rv, p, _⟩ := I.tuple hqx
    obtain ⟨its2, rv2, p2, _⟩ := I.tuple hqy
    obtain ⟨u, hu, ru⟩ := rv.get hx
    obtain ⟨u2, hu2, ru2⟩ := rv2.get hy
    have hzl : z < s.heap.objs.size := by
      obtain ⟨_, _, e, _⟩ := hz
      exact Heap.lt_size e
    refine nextZ_item D hz hTI hTO h1 h2 p p2 (x := u) (y := u2) (by simpa using hu) (by simpa using hu2) fun h' z' TO' h1' h2' hT hsz hk => ?_
    refine ⟨_, rfl, ?_⟩
    show wpAny _ _ (pure ()) _ _ _
    refine wpAny_pure ?_
    have new : ObjOk X.prog X.w (upd H s.heap.objs.size (.tup [x, y])) h' s.heap.objs.size (.tup [x, y]) :=
      ⟨by show 2 ≤ sizeLine; decide, [u, u2], .cons ru (.cons ru2 .nil), ⟨_, hT, rfl, _, rfl⟩⟩
    have I1 : Inv X pins σ (upd H s.heap.objs.size (.tup [x, y])) { s with heap := h' } :=
      I.turnedNew (t' := s.toks) (ch := [z, TI, TO, i1, i2]) (fun c o hb q => hk c o (fun q' => hb (by simp [q'])) (fun q' => hb (by simp [q'])) (fun q' => hb (by simp [q'])) (fun q' => hb (by simp [q'])) q) hf (Nat.le_refl _) new
    refine ⟨.ref s.heap.objs.size, _, I1, rfl, ⟨_, x, y, rfl, I.hok.fresh (Nat.le_refl _), rfl, fun l hl => by rw [I.tuple_inj hl hqx]; exact hx, fun l hl => by rw [I.tuple_inj hl hqy]; exact hy⟩, ⟨z', hk _ _ D.TIz D.TITO D.TIi1 D.TIi2 hTI, TO', h1', h2'⟩, fun c hcm => ?_⟩
    have hlt : c < s.heap.objs.size := by
      have e' : c = z ∨ c = TI ∨ c = TO ∨ c = i1 ∨ c = i2 := by simpa using hcm
      rcases e' with q | q | q | q | q
      · rw [q]; exact hzl
      · rw [q]; exact Heap.lt_size hTI
      · rw [q]; exact Heap.lt_size hTO
      · rw [q]; obtain ⟨_, e1, _⟩ := h1; exact Heap.lt_size e1
      · rw [q]; obtain ⟨_, e2, _⟩ := h2; exact Heap.lt_size e2
    rw [upd_ne (Nat.ne_of_lt hlt)]
    exact (hf c hcm).1
  done := by
    intro X hP hw hK hc i pins s σ H E I hf st hg
    subst hP hw hK
    obtain ⟨hz, hTI, ⟨x0, y0, hTO⟩, h1, h2⟩ := st
    obtain ⟨xs, ys, hqx, hqy, hend⟩ := hg
    obtain ⟨its, rv, p, _⟩ := I.tuple hqx
    obtain ⟨its2, rv2, p2, _⟩ := I.tuple hqy
    have l1 := rv.length
    have l2 := rv2.length
    have he : its.toArray[i]? = none ∨ its2.toArray[i]? = none := by
      rcases hend with q | q
      · exact .inl (by simp; omega)
      · exact .inr (by simp; omega)
    exact nextZ_end (I.ok.hd hc) D hz hTI hTO h1 h2 p p2 he fun h' hk => ⟨rfl, I.turnedL (t' := s.toks) (ch := [z, TI, TO, i1, i2]) (fun c o hb q =>
      hk c o (fun q' => hb (by simp [q'])) (fun q' => hb (by simp [q'])) (fun q' => hb (by simp [q'])) (fun q' => hb (by simp [q'])) q) hf⟩
  self := fun A i s Q E st h => iterZ st.1 h
def iZipN (K : PySem.W.Frag) (ta : TA) : TI := fun σ H R => ta σ H fun vs H1 => ∃ a b xs ys, vs = [.ref a, .ref b] ∧ SqT K H1 a xs ∧ SqT K H1 b ys ∧ R (ItzT K a b) H1
theorem pi_zipN {X : Cx} {e e2 : Expr} {ta : TA} {p pos xpos : Pos} {x : Str} (hg : Gl X "zip") (hm : X.mg "zip" = none) (ha : PA X [e, e2] ta)
    (hs : starEach [e, e2] X.env = (false, eval e X.env) :: starEach [e2] X.env := by rfl) (hpl : (backTo pos (starEach [e2] X.env)).any (·.1) = false := by rfl) :
    PI X (.Name x xpos) (.Call (.Name "zip" p) [e, e2] [] pos) (iZipN X.K ta) := by
  refine ⟨fun pins s σ H R I h => ?_⟩
  refine Call_ (ld_blt I hg hm PyProof.Rows.boot_zip (PyProof.Rows.callWith_type1 (thn (ha.run pos pins s σ H _ I h) fun us s1 ⟨vs, H1, I1, r1, q1⟩ => ?_) hs hpl))
  obtain ⟨a, b, xs, ys, ex, hqx, hqy, q⟩ := q1
  subst ex
  cases r1 with
  | cons r rr =>
    cases rr with
    | cons r' rr =>
      cases rr
      cases r
      cases r'
      have fresh5 : ∀ c, c ∈ [s1.heap.objs.size + 4, s1.heap.objs.size + 2, s1.heap.objs.size + 3, s1.heap.objs.size, s1.heap.objs.size + 1] → FpOk X pins H1 c := fun c hcm => by
        have e' : c = s1.heap.objs.size + 4 ∨ c = s1.heap.objs.size + 2 ∨ c = s1.heap.objs.size + 3 ∨ c = s1.heap.objs.size ∨ c = s1.heap.objs.size + 1 := by simpa using hcm
        have hle : s1.heap.objs.size ≤ c := by
          rcases e' with z | z | z | z | z
          · rw [z]; exact Nat.le_add_right _ _
          · rw [z]; exact Nat.le_add_right _ _
          · rw [z]; exact Nat.le_add_right _ _
          · rw [z]; exact Nat.le_refl _
          · rw [z]; exact Nat.le_add_right _ _
        exact I1.fpOk hle (I1.hok.fresh hle)
      obtain ⟨its, rv, p1, _⟩ := I1.tuple hqx
      obtain ⟨its2, rv2, p2, _⟩ := I1.tuple hqy
      obtain ⟨o1, ho1, _⟩ := id p1
      obtain ⟨o2, ho2, _⟩ := id p2
      refine call_zipT (show s1.heap.IsTuple a its.toArray from p1) (show s1.heap.IsTuple b its2.toArray from p2) fun h' hz hTI hTO h1 h2 hsz hk => wpAny_pyIter_zip hz ?_
      have I2 : Inv X pins σ H1 { s1 with heap := h' } := I1.kept (t' := s1.toks) hk
      exact ⟨s1.heap.objs.size + 4, [s1.heap.objs.size + 4, s1.heap.objs.size + 2, s1.heap.objs.size + 3, s1.heap.objs.size, s1.heap.objs.size + 1], _, _, H1, rfl, I2, turn_zipN (PySem.W.ktu_apart s1.heap.objs.size a b (Heap.lt_size ho1) (Heap.lt_size ho2)), ⟨⟨_, _, hz, .inl rfl⟩, hTI, ⟨_, _, hTO⟩, h1, h2⟩, fresh5, q⟩
section
variable {w : Wd} {W : WX} {X : Cx} {pos p xpos : Pos} {x : Str} {a b : Expr} {mr : MA}
theorem pmi_zipN (hK : w.K = X.K) (hg : Gl X "zip") (hm : X.mg "zip" = none) (ha : PMA X w W [a, b] mr) (hs : starEach [a, b] X.env = (false, eval a X.env) :: starEach [b] X.env := by rfl) (hpl : (backTo pos (starEach [b] X.env)).any (·.1) = false := by rfl) : PMI X w W (.Name x xpos) (.Call (.Name "zip" p) [a, b] [] pos) (mItA itZT mr) := by
  obtain ⟨t, pa, s⟩ := ha
  refine ⟨_, pi_zipN hg hm pa hs hpl, fun F O ρ σ H R hw R0 hh => ?_⟩
  subst hw
  refine s.bind rfl R0 hh fun xs vs ρ1 O1 H1 st R1 rs h1 => ?_
  cases q : itZT xs with
  | none => rw [q] at h1; exact h1.elim
  | some ds =>
    rw [q] at h1
    unfold itZT at q
    split at q
    · rename_i xs ys
      cases q
      obtain ⟨v, u, rfl, r1, r2⟩ := repl2 rs
      simp only [Rep] at r1 r2
      obtain ⟨c1, vs1, rfl, q1, r1⟩ := r1
      obtain ⟨c2, vs2, rfl, q2, r2⟩ := r2
      refine ⟨c1, c2, vs1, vs2, rfl, hK ▸ sq_of_rep q1, hK ▸ sq_of_rep q2, h1 O1 H1 _ st R1 ?_⟩
      have hl : (zipDD xs ys).length = min vs1.length vs2.length := by rw [zipDD_len, r1.length, r2.length]
      refine ⟨_, _, walk_zipT hl, fun O' H' st' => ⟨hK ▸ sq_of_rep (q1.imp (At.step st') id), hK ▸ sq_of_rep (q2.imp (At.step st') id)⟩, fun i O' H' x H'' hi st' dm y => ?_⟩
      obtain ⟨T, x1, y1, rfl, hT, rfl, e1, e2⟩ := y
      obtain ⟨d1, f1, g1⟩ := r1.at e1
      obtain ⟨d2, f2, g2⟩ := r2.at e2
      have gr : Grow H' (upd H' T (.tup [x1, y1])) := Grow.new hT
      have k1 : xs[i]? = some d1 := by
        have := congrArg List.head? f1
        simpa [List.head?_drop] using this
      have k2 : ys[i]? = some d2 := by
        have := congrArg List.head? f2
        simpa [List.head?_drop] using this
      refine ⟨gr, .tup [d1, d2], zipDD_drop i xs ys d1 d2 k1 k2, ?_⟩
      simp only [Rep, RepL]
      exact ⟨T, _, rfl, .inl ⟨fun z => dm T z hT, upd_same⟩, x1, _, rfl, Rep.step (st'.trans gr.step) _ _ g1, y1, _, rfl, Rep.step (st'.trans gr.step) _ _ g2, rfl⟩
    · cases q
end
end PM

/-! PMParC: x, y = e, c by a tuple (names that are cells): x one's own. -/
namespace PM
open PySem PySem.Spec PyProof.Rows L2
section
variable {w : Wd} {W : WX} {X : Cx} {x y : Str} {pos : Pos} {a : Expr} {m : ME}
end
end PM

/-! PMLcO: a comprehension over one's own list, which stays one's own. -/
namespace PM
open PySem L2
section
variable {w : Wd} {W : WX} {X : Cx} {pos pd : Pos} {elt tg : Expr} {ifs : List Expr} {scope : Scope} {own : List (Str × Nat)} {g : MG} {js : List Nat} {mt : MT} {me : ME} {x : Str}
end
end PM

/-! PMDcN: {k: v for x in it}, k a tuple. -/
namespace PM
open PySem PySem.Spec L2
section
variable {X : Cx}
theorem dictSetN {pins : List (Addr × Obj)} {σ : L2.St} {H H' : Hp} {s : Shared} {E : Value → Shared → Prop} {D : Addr} {y v : V} {u r : Value} {Q : Unit → Shared → Prop} (hu : X.A.units + 9 < cLine) (I : Inv X pins σ H s) (g : PutN X.K X.w H D y v H')
    (ry : RelV y u) (rv : RelV v r) (h : ∀ s', Inv X pins σ H' s' → Q () s') : wpAny (model X.prog X.w) X.A (dictSet D u r) Q E s := by
  obtain ⟨w, O, b, ks, xs, kd, k, hK, hW, rfl, h1, h2, h3, r0, hk, hl, rfl⟩ := g
  obtain rfl : u = Value.ref b := ry
  have h1' : Rd H D (DkO w.wo D xs) ∨ xs = [] ∧ Rd H D (.dK []) := h1.imp (fun z => .inl (by rw [hW]; exact z)) (fun z => ⟨z.1, .inl z.2⟩)
  obtain ⟨z1, z2, z0, ys, z3, z4⟩ := dk_heap I hK hW h1' h2 h3
  obtain ⟨n1, n2⟩ := tkD_some hk
  have ly : ys.length ≤ sizeLine := by rw [← Paired.length z3]; exact z1
  refine wpAny_dictSet_heap (hsz := ly) (knd := nestedKind X.prog X.w) (show X.A.units + 8 < cLine by omega) ⟨nest_of I hK kd k _ _ n1 r0 rfl, n2⟩ z4 fun h' dd' hs' => h _ ?_
  obtain ⟨q, es, ep, hq, g2, g3, g4, _, g5⟩ := dd'
  have mu : Mut (H D) := by
    rcases h1 with z | ⟨_, z⟩ <;> (rw [z]; exact True.intro)
  have zl := putX_len xs k b v
  have new : DkP X.w D (putX xs k b v) h' := ⟨by omega, z2, putX_depth z0 n2, _, put_paired rv z3, q, es, ep, hq, g2, g3, g4, g5⟩
  have ok : ObjOk X.prog X.w (upd H D (DkO X.w D (putX xs k b v))) h' D (DkO X.w D (putX xs k b v)) := ⟨new, ⟨q, hq⟩, dkP_stays⟩
  exact d_write I mu hs' ⟨q, hq⟩ ok
/-! ### one turn within the block, then the whole -/
/-- what a turn is to do: the target, the test, the key, the value, the put -/
def RoundN (K : PySem.W.Frag) (wo : World) (g : TG) (tt : TT) (tk tv : TE) (vs : List Nat) (D : Addr) (σ : L2.St) (H : Hp) (x : V) (Nx : Hp → Prop) : Prop :=
  g x (wipe σ vs) H fun σ2 H2 => wipe σ2 vs = wipe σ vs ∧ tt σ2 H2 fun b H3 => if b = true then tk σ2 H3 fun y H4 => tv σ2 H4 fun z H5 => ∃ H6, PutN K wo H5 D y z H6 ∧ Nx H6 else Nx H3
/-- all turns, by a measure that falls -/
def RoundsN (K : PySem.W.Frag) (wo : World) (g : TG) (tt : TT) (tk tv : TE) (vs : List Nat) (D : Addr) (σ : L2.St) (J : It) (Fin : Hp → Prop) (W : Nat → Nat → Hp → Prop) : Prop :=
  ∀ i m H, W i m H → (J.stop i H ∧ Fin H) ∨ (J.go i H ∧ ∃ Nx : Hp → Prop, (∀ H', Nx H' → ∃ m', m' < m ∧ W (i + 1) m' H') ∧ ∀ x H', J.yld i H x H' → RoundN K wo g tt tk tv vs D σ H' x Nx)
def tDcN (K : PySem.W.Frag) (wo : World) (wi : TI) (g : TG) (tt : TT) (tk tv : TE) (vs : List Nat) : TE := fun σ H Q => wi σ H fun J H1 => ∀ D, H1 D = none → ∃ W : Nat → Nat → Hp → Prop, (∃ m, W 0 m (upd H1 D (.dK []))) ∧ RoundsN K wo g tt tk tv vs D σ J (fun H => Q (.ref D) H) W
variable {kx vx tg iter : Expr} {ifs : List Expr} {scope : Scope} {pos : Pos} {g : TG} {tt : TT} {tk tv : TE} {vs : List Nat}
/-- the block between two turns -/
structure BetweenN (X : Cx) (s0 : Shared) (H0 : Hp) (scope : Scope) (ce : Env) (fp : List Addr) (σ : L2.St) (tn : Nat → Heap → Prop) (W : Nat → Nat → Hp → Prop) (m i : Nat) (H : Hp) (s : Shared) : Prop where
  inv : Inv (X.blk s0 H0 scope ce fp) [] σ H s
  at_ : tn i s.heap
  off : ∀ b ∈ fp, H b = none
  w : W i m H
theorem BetweenN.fp {s0 : Shared} {H0 : Hp} {ce : Env} {fp : List Addr} {σ : L2.St} {H : Hp} {s : Shared} (I : Inv (X.blk s0 H0 scope ce fp) [] σ H s) (off : ∀ b ∈ fp, H b = none) : ∀ b ∈ fp, FpOk (X.blk s0 H0 scope ce fp) [] H b := by
  intro b hb
  have e := I.ok.exf b hb
  refine ⟨off b hb, e.1, I.ok.exfs b hb, Or.inl hb, e.2, ?_⟩
  intro p hp
  exact absurd hp (by simp)
/-- a turn's end: the iterator stands where it stood, the block's own names are forgotten -/
theorem BetweenN.close {s0 s1 s2 : Shared} {H0 H2 : Hp} {ce : Env} {fp : List Addr} {σ σ2 : L2.St} {J : It} {it : Addr} {tn : Nat → Heap → Prop} {W : Nat → Nat → Hp → Prop} {m i : Nat} (T : Turn X.prog X.w X.K tg J fp it tn)
    (I : Inv (X.blk s0 H0 scope ce fp) ([] ++ pinsAt fp s1.heap) σ2 H2 s2) (st : tn i s1.heap) (e : wipe σ2 vs = wipe σ vs) (w : W i m H2) : BetweenN X s0 H0 scope ce fp (wipe σ vs) tn W m i H2 s2 := by
  have held : ∀ b ∈ fp, ∀ o, s1.heap.get? b = some o → s2.heap.get? b = some o ∧ H2 b = none := by
    intro b hb o eo
    have q := I.pin (b, o) (List.mem_append_right _ (List.mem_append_right _ (mem_pinsAt hb eo)))
    exact ⟨q.1, q.2.1⟩
  refine ⟨?_, T.keep _ _ _ st fun b hb o eo => (held b hb o eo).1, ?_, w⟩
  · refine (I.unpinned (pins := [])).weak ?_ ?_
    · rw [← e, wipe_length]
    · intro j v ej
      rw [← e] at ej
      exact (wipe_some ej).1
  · intro b hb
    obtain ⟨o, eo, _⟩ := T.obj _ _ st b hb
    exact (held b hb o eo).2
theorem loopN {s0 s4 : Shared} {H0 H4 : Hp} {ce : Env} {fp : List Addr} {σ : L2.St} {J : It} {it D : Addr} {tn : Nat → Heap → Prop} {Fin : Hp → Prop} {W : Nat → Nat → Hp → Prop} {m0 : Nat} {R : Result → Shared → Prop}
    (hu : X.A.units + 9 < cLine) (hc : X.calm = true) (T : Turn X.prog X.w X.K tg J fp it tn) (pg : PG (X.blk s0 H0 scope ce fp) tg g) (pt : PTs (X.blk s0 H0 scope ce fp) ifs tt) (pk : PE (X.blk s0 H0 scope ce fp) kx tk) (pv : PE (X.blk s0 H0 scope ce fp) vx tv)
    (rounds : RoundsN X.K X.w g tt tk tv vs D σ J Fin W) (b0 : BetweenN X s0 H0 scope ce fp (wipe σ vs) tn W m0 0 H4 s4) (hR : ∀ s H, Inv (X.blk s0 H0 scope ce fp) [] (wipe σ vs) H s → Fin H → R (.ok .next) s) :
    codeAny (model X.prog X.w) X.A (.compLoop (.DictComp kx vx [⟨tg, iter, ifs, 0⟩] scope pos) 0 (.ref it) (.ref D) ce) R s4 := by
  refine compLoop_anyD (fun m s => ∃ i H, BetweenN X s0 H0 scope ce fp (wipe σ vs) tn W m i H s) ?_ m0 ⟨0, H4, b0⟩
  rintro m s ⟨i, H, b⟩
  have fok := BetweenN.fp b.inv b.off
  rcases rounds i m H b.w with ⟨stop, q⟩ | ⟨go, Nx, less, round⟩
  · refine thnF (T.done (X.blk s0 H0 scope ce fp) rfl rfl rfl hc i [] s _ H (fun _ _ => False) b.inv fok b.at_ stop) ?_
    rintro r s1 ⟨rfl, I1⟩
    exact hR s1 H I1 q
  · refine thnF (T.item (X.blk s0 H0 scope ce fp) rfl rfl rfl hc i [] s _ H (fun _ _ => False) b.inv fok b.at_ go) ?_
    rintro r s1 ⟨u, rfl, h1⟩
    refine thnF h1 ?_
    rintro _ s2 ⟨x, H2, I2, rx, yx, st2, off2⟩
    have I2p := I2.pinned (BetweenN.fp I2 off2) (T.obj _ _ st2)
    refine thnF (pg.run _ s2 _ H2 x u _ I2p rx (round x H2 yx)) ?_
    rintro _ s3 ⟨σ3, H3, I3, e3, q3⟩
    refine thnF (pt.run _ s3 σ3 H3 _ I3 q3) ?_
    rintro ok s5 ⟨H5, I5, q5⟩
    have ends : ∀ {s' : Shared} {H' : Hp}, Inv (X.blk s0 H0 scope ce fp) ([] ++ pinsAt fp s2.heap) σ3 H' s' → Nx H' → ∃ m', m' < m ∧ ∃ i H, BetweenN X s0 H0 scope ce fp (wipe σ vs) tn W m' i H s' := by
      intro s' H' I' nx
      obtain ⟨m', lt, w'⟩ := less H' nx
      exact ⟨m', lt, i + 1, H', BetweenN.close T I' st2 e3 w'⟩
    cases ok with
    | false =>
      have q5 : Nx H5 := q5
      exact ends I5 q5
    | true =>
      have q5 : tk σ3 H5 fun y H4 => tv σ3 H4 fun z H5 => ∃ H6, PutN X.K X.w H5 D y z H6 ∧ Nx H6 := q5
      refine thnF (pk.run _ s5 σ3 H5 _ I5 q5) ?_
      rintro kv s6 ⟨y, H6, I6, ry, q6⟩
      refine thnF (pv.run _ s6 σ3 H6 _ I6 q6) ?_
      rintro vv s7 ⟨z, H7, I7, rz, H8, put, nx⟩
      exact dictSetN (X := X.blk s0 H0 scope ce fp) hu I7 put ry rz fun s8 I8 => ends I8 nx
/-- the dict and the block's frame laid, the loop run, the frame gone -/
theorem pe_dcN {own : List (Str × Nat)} {wi : TI} (hu : X.A.units + 9 < cLine) (hc : X.calm = true) (hN : X.N.Nodup) (hi : PI X tg iter wi) (ok : BlkOk X.N X.env.scope scope own)
    (hg : ∀ (s : Shared) (H : Hp) (C : Addr) (cl : List (Str × Addr)) (fp : List Addr), PG (X.blk s H scope (compEnvC scope cl C X.env) fp) tg g) (ht : ∀ (s : Shared) (H : Hp) (C : Addr) (cl : List (Str × Addr)) (fp : List Addr), PTs (X.blk s H scope (compEnvC scope cl C X.env) fp) ifs tt)
    (hk : ∀ (s : Shared) (H : Hp) (C : Addr) (cl : List (Str × Addr)) (fp : List Addr), PE (X.blk s H scope (compEnvC scope cl C X.env) fp) kx tk) (hv : ∀ (s : Shared) (H : Hp) (C : Addr) (cl : List (Str × Addr)) (fp : List Addr), PE (X.blk s H scope (compEnvC scope cl C X.env) fp) vx tv)
    (hs : ∀ x, foldedSetIterable iter X.env x = pure x) : PE X (.DictComp kx vx [⟨tg, iter, ifs, 0⟩] scope pos) (tDcN X.K X.w wi g tt tk tv (own.map (·.2))) := by
  refine ⟨fun pins s σ H Q I h => ?_⟩
  have cells : ∀ y ∈ scope.names, y.2 = .free → ∃ c, X.env.cells.lookup y.1 = some c := by
    intro y hy e
    rcases ok.free y hy e with k | k
    · exact I.ok.has y.1 (Or.inl k)
    · exact I.ok.has y.1 (Or.inr k)
  have loc : ∀ y ∈ scope.names, y.2 = .local → scope.names.lookup y.1 = some .local := by
    intro y hy e
    rw [ok.uniq y hy, e]
  rw [arm_eval_DictComp]
  refine wpAny_comprehension_free (use := none) rfl hs (closure_ok cells) ok.kind loc (thn (hi.run pins s σ H _ I h) fun xv s1 h1 => thn h1 fun itv s2 h2 => ?_)
  obtain ⟨it, fp, tn, J, H2, rfl, I2, T, st2, f2, q⟩ := h2
  refine wpAny_newObj_type (newEnv_comp ?_)
  -- the dict
  have hD : H2 s2.heap.objs.size = none := I2.hok.fresh (Nat.le_refl _)
  obtain ⟨W, ⟨m0, w0⟩, rounds⟩ := q _ hD
  have I3 := I2.laid (a := s2.heap.objs.size) (o := .dK []) (h' := s2.heap.push { cls := .type "dict", data := .dict #[] }) (t' := s2.toks) (fun _ _ e => Heap.get?_push_of_some _ e) (Nat.le_refl _) (dk_empty s2.heap I2.big)
  have below : ∀ b ∈ fp, b < s2.heap.objs.size := by
    intro b hb
    obtain ⟨o, e, _⟩ := T.obj _ _ st2 b hb
    exact Heap.lt_size e
  have off : ∀ b ∈ fp, upd H2 s2.heap.objs.size (.dK []) b = none := by
    intro b hb
    rw [upd_ne (Nat.ne_of_lt (below b hb))]
    exact (f2 b hb).1
  have f3 : ∀ b ∈ fp, FpOk X pins (upd H2 s2.heap.objs.size (.dK [])) b := fun b hb => ⟨off b hb, (f2 b hb).2⟩
  have st3 : tn 0 (s2.heap.push { cls := .type "dict", data := .dict #[] }) := T.keep _ _ _ st2 fun b _ o e => Heap.get?_push_of_some _ e
  have big3 : s2.heap.objs.size ≤ (s2.heap.push { cls := .type "dict", data := .dict #[] }).objs.size := by
    rw [Heap.size_push]
    exact Nat.le_succ _
  generalize (s2.heap.push { cls := .type "dict", data := .dict #[] }) = h3 at I3 st3 big3 ⊢
  generalize s2.heap.objs.size = D at *
  generalize hH3 : upd H2 D (.dK []) = H3 at I3 off f3 w0
  have I3 : Inv X pins σ H3 { s2 with heap := h3 } := I3
  generalize hs3 : ({ s2 with heap := h3 } : Shared) = s3 at I3 ⊢
  have e3 : s3.heap = h3 := by rw [← hs3]
  rw [← e3] at st3 big3
  -- the frame
  have I4 := block_start I3 ok hN fun b hb => ⟨f3 b hb, Nat.lt_of_lt_of_le (below b hb) big3⟩
  have st4 : tn 0 (pushCells (s3.heap.push { cls := .type "dict", data := .dict #[] }) scope.names) := T.keep _ _ _ st3 fun b _ o e => pushCells_keeps _ _ _ _ (Heap.get?_push_of_some _ e)
  have pg := hg s3 H3 s3.heap.objs.size (cellsFrom (s3.heap.objs.size + 1) scope.names (cloFrom X.env.cells scope.names [])) fp
  have pt := ht s3 H3 s3.heap.objs.size (cellsFrom (s3.heap.objs.size + 1) scope.names (cloFrom X.env.cells scope.names [])) fp
  have pk := hk s3 H3 s3.heap.objs.size (cellsFrom (s3.heap.objs.size + 1) scope.names (cloFrom X.env.cells scope.names [])) fp
  have pv := hv s3 H3 s3.heap.objs.size (cellsFrom (s3.heap.objs.size + 1) scope.names (cloFrom X.env.cells scope.names [])) fp
  have run : codeAny (model X.prog X.w) X.A (.compLoop (.DictComp kx vx [⟨tg, iter, ifs, 0⟩] scope pos) 0 (.ref it) (.ref D) (compEnvC scope (cellsFrom (s3.heap.objs.size + 1) scope.names (cloFrom X.env.cells scope.names [])) s3.heap.objs.size X.env))
      (compPost (model X.prog X.w) X.A X.xe none (EP X pins σ Q) (.ref D) s3.heap.objs.size) { s3 with heap := pushCells (s3.heap.push { cls := .type "dict", data := .dict #[] }) scope.names } := by
    refine loopN hu hc T pg pt pk pv rounds ⟨I4, st4, off, w0⟩ ?_
    intro s' H' I' q'
    -- the frame's own object may go
    have C0 : H' s3.heap.objs.size = none := I'.free
    obtain ⟨ns, hns, _⟩ := I'.loc
    have back : Inv X pins σ H' s' := I3.call' (ch := fp) I'.os I'.base I'.hok I'.bare fun b hb => ⟨(f3 b hb).2.2.2.1, (f3 b hb).2.1, (f3 b hb).2.2.2.2.1, (f3 b hb).2.2.2.2.2⟩
    obtain ⟨g0, g1, g2, g3, g4, g5⟩ := I3.fpOk (b := s3.heap.objs.size) (Nat.le_refl _) C0
    exact ⟨ns, hns, fun h'' sb => ⟨.ref D, H', back.turned (t' := s'.toks) (fun b o hb e => (sb.2 b hb).trans e) g0 g1 g3 g4 g5, rfl, q'⟩⟩
  exact codeAny_compStart_dict run (T.self X.A 0 _ _ _ st4 run)
end
/-- as dc_it -/
theorem dcN_it {J : It} {n : Nat} {G : Hp → Prop} {Y : Nat → Hp → V → Hp → Prop} (w : Walk J n G Y) {K : PySem.W.Frag} {wo : World} {g : TG} {tt : TT} {tk tv : TE} {vs : List Nat} {σ : L2.St} {H1 : Hp} {D : Addr} {Qd : Hp → Prop} (Pv : Nat → Hp → Prop) (h0 : Pv 0 (upd H1 D (.dK []))) (hG : ∀ i H, i ≤ n → Pv i H → G H)
    (hs : ∀ i x H H', i < n → Pv i H → Y i H x H' → RoundN K wo g tt tk tv vs D σ H' x (Pv (i + 1))) (hd : ∀ H, Pv n H → Qd H) :
    ∃ W : Nat → Nat → Hp → Prop, (∃ m, W 0 m (upd H1 D (.dK []))) ∧ RoundsN K wo g tt tk tv vs D σ J Qd W := by
  refine ⟨fun i m H => m = n - i ∧ i ≤ n ∧ Pv i H, ⟨n, by simp, Nat.zero_le _, h0⟩, ?_⟩
  rintro i m H ⟨rfl, hi, p⟩
  have q := hG i H hi p
  by_cases hlt : i < n
  · exact .inr ⟨w.goes i H hlt q, Pv (i + 1), fun H' p' => ⟨n - (i + 1), by omega, rfl, hlt, p'⟩, fun x H' y => hs i x H H' hlt p (w.yields i H x H' hlt q y)⟩
  · have e : i = n := by omega
    subst e
    exact .inl ⟨w.stops H q, hd H p⟩
def mDcNLoop (g : MG) (vs : List Nat) (mt : MT) (mk mv : ME) : List D → List D → List D → En → Rs (List D × List D)
  | [], ks, es, ρ => .ok (ks, es) ρ
  | d :: ds, ks, es, ρ => match g d ρ with
    | none => .stuck
    | some ρ1 => match mt ρ1 with
      | .ok b ρ2 => if b = true then (match mk ρ2 with
          | .ok k ρ3 => (match mv ρ3 with
            | .ok y ρ4 => (match tkD k.1 with
              | some kk => if ks.length < sizeLine then mDcNLoop g vs mt mk mv ds (putKN ks kk k.1) (putDN ks es kk y.1) (wipeE ρ4 vs) else .stuck
              | none => .stuck)
            | _ => .stuck)
          | _ => .stuck) else mDcNLoop g vs mt mk mv ds ks es (wipeE ρ2 vs)
      | _ => .stuck
def mDcN (mi : MI) (vs : List Nat) (g : MG) (mt : MT) (mk mv : ME) : ME := fun ρ => (mi ρ).bind fun ds ρ1 => (mDcNLoop g vs mt mk mv ds [] [] (wipeE ρ1 vs)).bind fun q ρ2 => if q.1 = [] then .stuck else .ok (.dkt q.1 q.2, true) (wipeE ρ2 vs)
theorem sim_dcN {K : PySem.W.Frag} {wo : World} {w : Wd} {W : WX} {wi : TI} {mi : MI} {gg : TG} {g : MG} {js vs : List Nat} {tt : TT} {mt : MT} {tk tv : TE} {mk mv : ME} (hK : w.K = K) (hW : w.wo = wo) (si : SimI w W wi mi) (sg : SimG w gg g js) (stt : SimT w W0 tt mt) (sk : Sim w W0 tk mk) (sv : Sim w W0 tv mv) (hj : ∀ j ∈ js, j ∈ vs) :
    Sim w W (tDcN K wo wi gg tt tk tv vs) (mDcN mi vs g mt mk mv) := fun F O ρ σ H Q hw R hh => by
  refine simI_bind1 (fun k hk => si F O ρ σ H k hw R hk) hh fun ds J ρ1 O1 H1 st1 R1 io h1 => ?_
  intro Dl hD
  obtain ⟨G, Y, wk, hG, hY⟩ := io
  have hDe : F.He Dl = none := R1.freshE hD
  have hDb : ¬ F.B Dl := fun q => R1.bh Dl q hDe
  have hDi : ∀ i, ¬ F.Io i Dl := fun i q => hDb (R1.ib i Dl q)
  have g0 : Grow H1 (upd H1 Dl (.dK [])) := Grow.new hD
  have R2 : Rel F (ins O1 Dl) ρ1 σ (upd H1 Dl (.dK [])) := R1.guard g0 hD (by rw [upd_same]; simp)
  refine dcN_it wk (fun i H' => ∃ (O' : Av) (ρ' : En) (ks es : List D) (xs : List (NestedKey × Addr × V)), Step O1 H1 O' H' ∧ Rel F O' ρ' (wipe σ vs) H' ∧ O' Dl ∧ Apart ρ' (wipe σ vs) Dl ∧ (H' Dl = some (DkO wo Dl xs) ∨ xs = [] ∧ H' Dl = some (.dK [])) ∧ nkL ks = some (xs.map (·.1)) ∧ RepL F.w O' H' ks (xs.map fun x => V.ref x.2.1) ∧ RepL F.w O' H' es (xs.map (·.2.2)) ∧
      Hold F W O σ H (RV F σ H) Q ((mDcNLoop g vs mt mk mv (ds.drop i) ks es ρ').bind fun q ρ2 => if q.1 = [] then .stuck else .ok (.dkt q.1 q.2, true) (wipeE ρ2 vs))) ?_ ?_ ?_ ?_
  · exact ⟨ins O1 Dl, wipeE ρ1 vs, [], [], [], ins_step g0 hD, R2.wipe, .inr rfl, (R1.apart hD).slots fun j h => wipe_off h, .inr ⟨rfl, upd_same⟩, rfl, by simp only [List.map_nil, RepL], by simp only [List.map_nil, RepL], h1⟩
  · rintro i H' _ ⟨O', ρ', ks, es, xs, st, _⟩
    exact hG O' H' st
  · rintro i x H' H'' hi ⟨O', ρ', ks, es, xs, st, R', od, ap, hd, hks, rk0, ra, hl⟩ y
    obtain ⟨gr, d, ed, rd⟩ := hY i O' H' x H'' hi st R'.dom y
    rw [ed] at hl
    have R3 : Rel F O' ρ' (wipe σ vs) H'' := R'.grow gr
    have hd3 : H'' Dl = some (DkO wo Dl xs) ∨ xs = [] ∧ H'' Dl = some (.dK []) := hd.imp (fun z => gr _ _ z) fun z => ⟨z.1, gr _ _ z.2⟩
    obtain ⟨ob0, hd4⟩ : ∃ o, H'' Dl = some o := by
      rcases hd3 with z | ⟨_, z⟩ <;> exact ⟨_, z⟩
    have rk3 : RepL F.w O' H'' ks (xs.map fun x => V.ref x.2.1) := RepL.step gr.step _ _ rk0
    have ra3 : RepL F.w O' H'' es (xs.map (·.2.2)) := RepL.step gr.step _ _ ra
    have st3 : Step O1 H1 O' H'' := st.trans gr.step
    have Rw : Rel (F.within ρ' (wipe σ vs) H'' Dl) O' ρ' (wipe σ vs) H'' := R3.within od ap
    have nw : ¬ ownAt ρ' (wipe σ vs) Dl := fun ⟨i, m, e1, e2⟩ => ap i _ e1 rfl e2
    have heD : (F.within ρ' (wipe σ vs) H'' Dl).He Dl ≠ none := by
      show heLess ρ' (wipe σ vs) H'' Dl ≠ none
      rw [heLess_not nw, hd4]
      simp
    unfold mDcNLoop at hl
    cases q : g d ρ' with
    | none => simp only [q] at hl; exact hl.elim
    | some ρa =>
      simp only [q] at hl
      refine sg (F.within ρ' (wipe σ vs) H'' Dl) O' ρ' ρa (wipe σ vs) H'' x d _ hw Rw (hw ▸ rd) q fun σa Ra out => ?_
      have ew : wipe σa vs = wipe σ vs := (out vs hj).trans wipe_twice
      have hs : ∀ j, j ∉ vs → (wipe σ vs)[j]? = σa[j]? := fun j h => by rw [← ew, wipe_off h]
      have hlen : ∀ {ρx : En} {Ox : Av} {Hx : Hp}, Rel F Ox ρx σa Hx → ρx.length = (wipe σ vs).length := fun Rx => by rw [Rx.len, ← ew, wipe_length]
      refine ⟨ew, stt (F.within ρ' (wipe σ vs) H'' Dl) O' ρa σa H'' _ hw Ra ?_⟩
      cases q2 : mt ρa with
      | stuck => simp only [q2] at hl; exact hl
      | exc x ρb => simp only [q2] at hl; exact hl.elim
      | ok b ρb =>
        simp only [q2] at hl
        intro Ob Hb b' stb Rb eb
        have eb : b' = b := eb
        subst eb
        cases b' with
        | false =>
          refine iteF ?_
          obtain ⟨Rf, ob, hb⟩ := R3.without hd4 ap hDb Rb
          refine ⟨Ob, wipeE ρb vs, ks, es, xs, st3.trans stb, Rf.slots (hlen Rf) hs, ob, (Rb.apartB heD hDi).slots hs, ?_, hks, RepL.step stb _ _ rk3, RepL.step stb _ _ ra3, ?_⟩
          · rw [hb, ← hd4]
            exact hd3
          · exact hl
        | true =>
          rw [if_pos rfl] at hl
          refine iteT (sk (F.within ρ' (wipe σ vs) H'' Dl) Ob ρb σa Hb _ hw Rb ?_)
          cases q3 : mk ρb with
          | stuck => simp only [q3] at hl; exact hl
          | exc x ρc => simp only [q3] at hl; exact hl.elim
          | ok kv ρc =>
            simp only [q3] at hl
            intro Oc Hc vk stc Rc rk
            obtain ⟨O5, s5, R5, r5, _⟩ := VlAt.release stc Rc Rb.doh rk
            refine sv (F.within ρ' (wipe σ vs) H'' Dl) O5 ρc σa Hc _ hw R5 ?_
            cases q4 : mv ρc with
            | stuck => simp only [q4] at hl; exact hl
            | exc x ρd => simp only [q4] at hl; exact hl.elim
            | ok yv ρd =>
              simp only [q4] at hl
              intro Od Hd v std Rd rv
              obtain ⟨O6, s6, R6, r6, _⟩ := VlAt.release std Rd R5.doh rv
              obtain ⟨Rf, ob, hb⟩ := R3.without hd4 ap hDb R6
              have ap6 : Apart ρd σa Dl := R6.apartB heD hDi
              cases ek : tkD kv.1 with
              | none => simp only [ek] at hl; exact hl.elim
              | some kk =>
                simp only [ek] at hl
                split at hl
                · rename_i hz
                  have r5' : Rep F.w O6 Hd kv.1 vk := Rep.step s6 _ _ (show Rep F.w O5 Hc kv.1 vk from r5)
                  obtain ⟨ba, rfl⟩ := tk_ref ek r5'
                  obtain ⟨n1, n2⟩ := tkD_some ek
                  have st6 : Step O' H'' O6 Hd := (stb.trans s5).trans s6
                  have ra6 : RepL F.w O6 Hd es (xs.map (·.2.2)) := RepL.step st6 _ _ ra3
                  have rk6 : RepL F.w O6 Hd ks (xs.map fun x => V.ref x.2.1) := RepL.step st6 _ _ rk3
                  have hd6 : Hd Dl = some (DkO wo Dl xs) ∨ xs = [] ∧ Hd Dl = some (.dK []) := by
                    rw [hb, ← hd4]
                    exact hd3
                  have R7 : Rel F O6 ρd σa (upd Hd Dl (DkO wo Dl (putX xs kk ba v))) := Rf.updG ob ap6 hDe
                  have mst : Step O6 Hd O6 (upd Hd Dl (DkO wo Dl (putX xs kk ba v))) := mut_step ob
                  obtain ⟨p1, p2, p3⟩ := put_repN hks rk6 ra6 n1 r5' (show Rep F.w O6 Hd yv.1 v from r6)
                  have hn := nkL_len hks
                  rw [List.length_map] at hn
                  exact ⟨upd Hd Dl (DkO wo Dl (putX xs kk ba v)), ⟨F.w, O6, ba, ks, xs, kv.1, kk, by rw [hw]; exact hK, by rw [hw]; exact hW, rfl, hd6, hks, rk6, r5', ek, by rw [hn]; exact hz, rfl⟩, O6, wipeE ρd vs, putKN ks kk kv.1, putDN ks es kk yv.1, putX xs kk ba v, (st3.trans st6).trans mst, R7.slots (hlen R7) hs, ob, ap6.slots hs, .inl upd_same, p1, RepL.step mst _ _ p2, RepL.step mst _ _ p3, hl⟩
                · exact hl.elim
  · rintro H' ⟨O', ρ', ks, es, xs, st, R', od, ap, hd, hks, rk0, ra, hl⟩
    rw [List.drop_length] at hl
    have hl : Hold F W O σ H (RV F σ H) Q (if ks = [] then .stuck else .ok (.dkt ks es, true) (wipeE ρ' vs)) := hl
    have back : ∀ j, j ∉ vs → σ[j]? = (wipe σ vs)[j]? := fun j h => (wipe_off h).symm
    split at hl
    · exact hl.elim
    · rename_i hne
      have hd' : H' Dl = some (DkO F.w.wo Dl xs) := by
        rcases hd with z | ⟨rfl, _⟩
        · rw [hw, hW]
          exact z
        · refine absurd ?_ hne
          have hn := nkL_len hks
          exact List.length_eq_zero_iff.mp (by simpa using hn.symm)
      exact hl O' H' (.ref Dl) (st1.trans st) (R'.slots (by rw [R'.len, wipe_length]) back) ⟨Dl, .dkt ks es, rfl, st1.none_back hD, od, rfl, ⟨xs, hd', hks, rk0, ra⟩, ap.slots back⟩
section
variable {w : Wd} {W : WX} {X : Cx} {pos : Pos} {kx vx tg iter : Expr} {ifs : List Expr} {scope : Scope} {own : List (Str × Nat)} {mi : MI} {g : MG} {js : List Nat} {mt : MT} {mk mv : ME} {n : Nat}
theorem pm_dcN (hK : w.K = X.K) (hW : w.wo = X.w) (hr : Room n X.A) (hc : X.calm = true) (hN : X.N.Nodup) (hi : PMI X w W tg iter mi) (ok : BlkOk X.N X.env.scope scope own) (hj : ∀ j ∈ js, j ∈ own.map (·.2))
    (hg : ∀ (s : Shared) (H : Hp) (C : Addr) (cl : List (Str × Addr)) (fp : List Addr), PMG (X.blk s H scope (compEnvC scope cl C X.env) fp) w tg g js) (ht : ∀ (s : Shared) (H : Hp) (C : Addr) (cl : List (Str × Addr)) (fp : List Addr), PMTs (X.blk s H scope (compEnvC scope cl C X.env) fp) w W0 ifs mt)
    (hk : ∀ (s : Shared) (H : Hp) (C : Addr) (cl : List (Str × Addr)) (fp : List Addr), PM (X.blk s H scope (compEnvC scope cl C X.env) fp) w W0 kx mk)
    (hv : ∀ (s : Shared) (H : Hp) (C : Addr) (cl : List (Str × Addr)) (fp : List Addr), PM (X.blk s H scope (compEnvC scope cl C X.env) fp) w W0 vx mv) (hs : ∀ x, foldedSetIterable iter X.env x = pure x := by intro _; rfl) :
    PM X w W (.DictComp kx vx [⟨tg, iter, ifs, 0⟩] scope pos) (mDcN mi (own.map (·.2)) g mt mk mv) := by
  obtain ⟨wi, pi, si⟩ := hi
  exact ⟨_, pe_dcN (room8 hr) hc hN pi ok (fun s H C cl fp => (hg s H C cl fp).pe) (fun s H C cl fp => (ht s H C cl fp).pe) (fun s H C cl fp => (hk s H C cl fp).pe) (fun s H C cl fp => (hv s H C cl fp).pe) hs, sim_dcN hK hW si simg_of simt_of sim_of sim_of hj⟩
end
end PM

/-! PMLend: one's own dict lent to a def that reads it; d.get(k), d.pop(k) of one's own dict. -/
namespace PM
open PySem PySem.Spec PyProof.Rows L2
/-! ### data without dicts -/
section
variable {w : Wd} {O : Av} {H : Hp} {a : Addr} {kvs : List (Key × V)}
end
/-! ### arguments, one of them lent -/
section
variable {w : Wd} {W : WX} {X : Cx} {pos p p' : Pos} {x y : Str} {e : Expr} {es : List Expr} {ma : ME} {mr : MA} {ta : TE} {tr : TA} {f : Fn} {n j : Nat}
end
end PM

/-! PMPopK: d.get(k), d.pop(k) of one's own dict. -/
namespace PM
open PySem PySem.Spec PyProof.Rows L2
section
variable {w : Wd} {O : Av} {H : Hp}
end
section
variable {w : Wd} {W : WX} {X : Cx} {p apos cpos : Pos} {x : Str} {e : Expr} {mk : ME} {n : Nat}
end
end PM

/-! PMLtX: < of texts, < of pairs of a whole number and a text. -/
namespace PM
open PySem PySem.Spec PyProof.Rows L2
section
variable {X : Cx} {w : Wd} {W : WX} {a b : Expr} {ma mb : ME} {pos : Pos}
end
end PM

/-! PMLendE: an expression that reads one's own dict as data, which stays one's own. -/
namespace PM
open PySem PySem.Spec PyProof.Rows L2
section
variable {w : Wd} {O : Av} {H : Hp} {a : Addr} {kvs : List (Key × V)}
end
end PM

/-! PMNe0K: d != {}, d.clear() of one's own dict; {k: v}, k a whole number or a text. -/
namespace PM
open PySem PySem.Spec PyProof.Rows L2
section
variable {X : Cx} {w : Wd} {W : WX} {p p1 pos apos cpos : Pos} {x : Str} {k v : Expr} {mk mv : ME} {n : Nat}
end
end PM

/-! PMSortA: sorted(list) of tuples of whole numbers, texts and such tuples. -/
namespace PM
open PySem PySem.Spec PyProof.Rows L2
open PySem.W (EachIs dataLe alike AllAlike Sortable)
section
variable {X : Cx} {pins : List (Addr × Obj)} {σ : L2.St} {H : Hp} {s : Shared}
end
end PM

/-! PMSortB: sorted(list), sorted(d.items()) of tuples of whole numbers, texts and such tuples. -/
namespace PM
open PySem PySem.Spec PyProof.Rows L2
open PySem.W (EachIs dataLe alike AllAlike Sortable)
section
variable {X : Cx} {e : Expr} {te : TE} {p apos cpos pos : Pos}
end
end PM

/-! PMSortC: the rules: sorted(list), sorted(d.items()), max(list of ints). -/
namespace PM
open PySem PySem.Spec PyProof.Rows L2
section
variable {w : Wd} {W : WX} {X : Cx} {e : Expr} {me : ME} {mr : MA} {te : TE} {p apos cpos pos : Pos}
end
end PM

/-! PMSortK: sorted(list, key=f), f a def whose worth is a text. -/
namespace PM
open PySem PySem.Spec PyProof.Rows L2
open PySem.W (EachIs dataLe alike AllAlike Sortable KeyedOut KeepsBut)
section
variable {X : Cx} {pins : List (Addr × Obj)} {σ : L2.St} {A : Around} {f : Addr} {sp : Sp}
end
/-! the order, told so that it can be worked out -/
section
variable {w : Wd} {W : WX} {X : Cx} {pos p p2 kpos : Pos} {x : Str} {e : Expr} {mr : MA} {fn : Fn} {j : Nat}
end
end PM

/-! PMCallF: f(g(..)), f(g(..), 4): a new list is handed on, which f may change and nobody sees again. -/
namespace PM
open PySem L2
section
variable {w : Wd} {W : WX} {X : Cx} {pos p : Pos} {x : Str} {e : Expr} {f : Fn} {j : Nat} {m0 : ME}
end
end PM

/-! for k, v in e.items(), e a call whose answer is a dict of its own -/
namespace PM
open PySem PySem.Spec PyProof.Rows L2
section
variable {X : Cx} {tg e : Expr} {td : TE} {apos cpos : Pos}
end
section
variable {w : Wd} {W : WX} {X : Cx} {e : Expr} {m : ME} {apos cpos tpos : Pos} {elts : List Expr} {kk : Nat}
end
end PM

/-! try: return x.m() / except A as n: return n.f -/
namespace PM
open PySem PySem.Spec PyProof.Rows L2
section
variable {w : Wd} {X : Cx} {c i i0 j k : Nat} {f1 m : Str} {g : Addr} {fn : Fn} {x n x1 : Str} {q0 q1 q3 q4 q5 r1 r2 r4 r5 pl0 : Pos} {pl : Sem Bool}
end
end PM

/-! operators of instances that may raise -/
namespace PM
open PySem PySem.Spec PyProof.Rows L2
section
variable {X : Cx} {w : Wd} {W : WX} {E : XK} {c n : Nat} {g : Addr} {fn : Fn} {ma mb : ME} {a b : Expr} {pos : Pos}
end
section
variable {w : Wd} {x : Str} {c : Nat} {a : Addr}
theorem OpOk.wT (h : OpOk w c x a) (T : List (Addr × Str)) : OpOk (w.wT T) c x a := ⟨h.sf, h.at_, h.fn⟩
theorem CmOk.wT (h : CmOk w c x a) (T : List (Addr × Str)) : CmOk (w.wT T) c x a := ⟨h.ex⟩
theorem PropOk.wT (h : PropOk w c x a) (T : List (Addr × Str)) : PropOk (w.wT T) c x a := ⟨h.sc, h.ex⟩
end
end PM

/-! what is known at a frame without tables, at one with them -/
namespace PM
open PySem PySem.Spec PyProof.Rows L2
section
variable {P : Program} {wo : World} {K : PySem.W.Frag} {mg : Str → Option Value} {base : Heap} {w : Wd} {x : Str} {c n j : Nat} {f : Fn} {a : Addr}
theorem DunOk.wT (h : DunOk w c x a) (T : List (Addr × Str)) : DunOk (w.wT T) c x a := ⟨h.at_, h.fn⟩
theorem EqOk.wT (h : EqOk w c a) (T : List (Addr × Str)) : EqOk (w.wT T) c a := ⟨h.at_, h.fn, h.ne, h.mr, h.nf⟩
theorem SetOk.wT {i : Nat} (h : SetOk w c x i) (T : List (Addr × Str)) : SetOk (w.wT T) c x i := ⟨h.sc, h.sl⟩
theorem ClsOk.wT (h : ClsOk w n) (T : List (Addr × Str)) : ClsOk (w.wT T) n := ⟨h.sc, h.si⟩
theorem SlotsOk.wT {ix : Nat → Option Nat} (h : SlotsOk w x ix) (T : List (Addr × Str)) : SlotsOk (w.wT T) x ix := h
theorem MkOk.wT (h : MkOk P wo K mg base w c n j f) (T : List (Addr × Str)) : MkOk P wo K mg base (w.wT T) c n j f := by
  obtain ⟨g, fd, ps, h1, h2, h3, h4⟩ := h.ex
  exact ⟨⟨g, fd, ps, h1, h2, by rw [spIn_T]; exact h3, h4⟩⟩
end
end PM

/-! PMSetW: sets whose elements are tuples of elements of one kind (texts): the search, adding. -/
namespace PM
open PySem PySem.Spec PyProof.Rows L2
section
variable {P : Program} {w : World} {A : Around} {E : Value → Shared → Prop} {s : Shared} {K0 : Type} [DecidableEq K0] {knd : KeyKind P w K0}
abbrev IsW (knd : KeyKind P w K0) (h : Heap) (k : List K0) (b : Addr) : Prop := IsTupleKey knd h k b
/-! ### the set -/
abbrev Row (K0 : Type) := Addr × List K0
abbrev hk (knd : KeyKind P w K0) (p : Row K0) : Int := tupleKeyHash knd p.2
abbrev entW (knd : KeyKind P w K0) (p : Row K0) : Int × Value := (hk knd p, Value.ref p.1)
/-- the set at a holds the tuples L -/
structure WSet (knd : KeyKind P w K0) (h : Heap) (a : Addr) (L : List (Row K0)) (es : Array (Int × Value)) (ep : Nat) (t : SetTable) : Prop where
  ob : ∃ o, h.get? a = some o ∧ o.ExactSet ∧ o.data = .set es ep t
  rows : es.toList = L.map (entW knd)
  tab : TabOk t (L.map (hk knd))
  nd : (L.map (·.2)).Nodup
  tup : ∀ p ∈ L, IsW knd h p.2 p.1
  led : w.params.followText "set-order" = true ∨ t.led = true
  room : L.length * 5 < t.mask * 3
  few : L.length < 64
variable {a : Addr} {L : List (Row K0)} {es : Array (Int × Value)} {ep : Nat} {t : SetTable}
theorem rows_size (h : es.toList = L.map (entW knd)) : es.size = L.length := by
  have := congrArg List.length h
  rwa [Array.length_toList, List.length_map] at this
theorem rows_at (h : es.toList = L.map (entW knd)) {i : Nat} {p : Row K0} (e : L[i]? = some p) : es[i]? = some (entW knd p) := by
  rw [← Array.getElem?_toList, h, List.getElem?_map, e]
  rfl
theorem fits_of (h : es.toList = L.map (entW knd)) (T : t.place.size = es.size) (D : t.dummies = #[]) (q : es.size ≤ t.mask) : t.fits es.size = true := by
  unfold SetTable.fits SetTable.fill
  rw [D, Bool.and_eq_true, beq_iff_eq, decide_eq_true_eq]
  exact ⟨T, by show t.place.size + 0 ≤ t.mask; omega⟩
theorem WSet.fit (R : WSet knd s.heap a L es ep t) : t.fits es.size = true := by
  have z1 := R.tab.sz
  rw [List.length_map] at z1
  have z2 := rows_size R.rows
  have z3 := R.room
  exact fits_of R.rows (by omega) R.tab.dm (by omega)
theorem WSet.here (R : WSet knd s.heap a L es ep t) {i j : Nat} (h : t.place.toList[i]? = some j) : ∃ p, L[i]? = some p ∧ p ∈ L := by
  have l1 := (List.getElem?_eq_some_iff.mp h).1
  have l2 := R.tab.sz
  rw [List.length_map] at l2
  rw [Array.length_toList] at l1
  have l3 : i < L.length := by omega
  exact ⟨_, List.getElem?_eq_getElem l3, List.getElem_mem l3⟩
/-- one candidate asked -/
theorem asked (R : WSet knd s.heap a L es ep t) (hu : A.units < cLine) {x : Addr} {k : List K0} (hx : IsW knd s.heap k x) {i j : Nat} {p : Row K0} {next : SetTable.Probe} {f : Nat} {Q : SetFound → Shared → Prop} (hp : L[i]? = some p) (hj : t.place.toList[i]? = some j)
    (yes : p.2 = k → Q (.there none) s) (no : p.2 ≠ k → wpAny (model P w) A (setSearchFrom a (.ref x) (tupleKeyHash knd k) true f (some next)) Q E s) : wpAny (model P w) A (searchRest a (.ref x) (tupleKeyHash knd k) true f es t j i next) Q E s := by
  obtain ⟨o, ho, _, hd⟩ := R.ob
  have hy := R.tup p (List.mem_of_getElem? hp)
  unfold searchRest
  rw [rows_at R.rows hp]
  dsimp only
  refine wpAny_bind (wpAny_holding (wpAny_eqBool_tuple hu hy hx (wpAny_bind (wpAny_setState_of ho hd R.fit ?_))))
  dsimp only
  by_cases c : p.2 = k
  · exact wp_if_pos (by simp [c]) (wpAny_pure (yes c))
  · refine wp_if_neg (by simp [c]) ?_
    try refine wpAny_bind (wpAny_pure ?_)
    rw [sameMem]
    dsimp only
    simp only [if_true, slot_live R.tab.ris hj, rows_at R.rows hp]
    refine wpAny_bind (wpAny_isSame_ref_self (wpAny_bind (wpAny_pure ?_)))
    simp only [if_true]
    exact wp_if_neg (by simp [c]) (no c)
end
end PM

/-! PMSetV: set(list of tuples of texts), sorted of it. -/
namespace PM
open PySem PySem.Spec PyProof.Rows L2
open PySem.W (EachIs dataLe alike AllAlike Sortable)
section
variable {K0 : Type}
end
section
variable {P : Program} {w : World} {A : Around} {E : Value → Shared → Prop} {s : Shared} {K0 : Type} [DecidableEq K0] {knd : KeyKind P w K0}
end
end PM

/-! PMSetR: sorted(set(list of tuples of texts)) -/
namespace PM
open PySem PySem.Spec PyProof.Rows L2
open PySem.W (EachIs dataLe dataLt alike alikeAll AllAlike Sortable)
section
variable {X : Cx} {pins : List (Addr × Obj)} {σ : L2.St} {H : Hp} {s : Shared}
end
/-! ### the order of rows, told so that it can be worked out -/
/-! ### the rule -/
section
variable {w : Wd} {W : WX} {X : Cx} {pos p p2 pos2 : Pos} {e : Expr} {mr : MA}
end
end PM

/-! PMDkf: dicts with tuples as keys that never change: walked, listed, starred. -/
namespace PM
open PySem PySem.Spec PyProof.Rows L2
section
variable {X : Cx} {pins : List (Addr × Obj)} {σ : L2.St} {H : Hp} {s : Shared} {d : Addr} {o : Obj} {xs : List (NestedKey × Addr × V)}
end
section
variable {P : Program} {w : World} {K : PySem.W.Frag} {tg : Expr} {d : Addr} {o : Obj} {xs : List (NestedKey × Addr × V)} {es : Array DictEntry} {ep : Nat}
end
section
variable {X : Cx} {tg e : Expr} {td : TE}
end
/-! ### list(d), [*d, ..] -/
section
variable {X : Cx} {pins : List (Addr × Obj)} {σ : L2.St} {H : Hp} {s : Shared} {d : Addr} {o : Obj} {xs : List (NestedKey × Addr × V)}
variable {e : Expr} {es : List Expr} {te : TE} {t : TA} {p : Pos}
end
/-! ### what they are worth -/
section
variable {w : Wd} {W : WX} {X : Cx} {pos p : Pos} {e it tg : Expr} {es : List Expr} {m : ME} {mr : MA}
end
end PM

/-! PMDcF: {k: v for x in it}, k a tuple; a dict that never changes from then on. -/
namespace PM
open PySem PySem.Spec L2
section
variable {w : Wd} {W : WX} {X : Cx} {pos : Pos} {kx vx tg iter : Expr} {ifs : List Expr} {scope : Scope} {own : List (Str × Nat)} {mi : MI} {g : MG} {js : List Nat} {mt : MT} {mk mv : ME} {n : Nat}
end
end PM

/-! PMEqT: == of two tuples, the first items instances, the others texts: with either answer. -/
namespace PM
open PySem PySem.Spec PyProof.Rows L2
section
variable {X : Cx} {w : Wd} {pins : List (Addr × Obj)} {σ : L2.St} {H : Hp} {s : Shared} {O : Av}
end
section
variable {X : Cx} {w : Wd} {c j : Nat} {g : Addr} {fn : Fn}
/-! ### (x, a, ..) == (y, b, ..) -/
end
section
variable {w : Wd} {W : WX} {X : Cx} {pos : Pos} {e e' : Expr} {m m' : ME} {c j : Nat} {g : Addr} {fn : Fn}
end
end PM

/-! PMDkE: == of two dicts with tuples as keys, all worths True. -/
namespace PM
open PySem PySem.Spec PyProof.Rows L2
section
variable {prog : Program} {wo : World} {K : Type} [DecidableEq K] {knd : HeapKind prog wo K} {A : Around} {E : Value → Shared → Prop} {s : Shared}
end
section
variable {X : Cx} {w : Wd} {O : Av} {H : Hp}
end
section
variable {w : Wd} {W : WX} {X : Cx} {pos : Pos} {e e' : Expr} {m m' : ME} {n : Nat}
end
end PM

/-! PMMinT: < of pairs of texts; min, max of two texts and of a tuple of whole numbers; tuple(text); sets as data. -/
namespace PM
open PySem PySem.Spec PyProof.Rows L2
/-! ### (text, text) < (text, text) -/
section
variable {X : Cx} {w : Wd} {W : WX} {a b : Expr} {ma mb : ME} {pos : Pos}
end
/-! ### max, min of two texts -/
section
variable {prog : Program} {wo : World} {A : Around} {E : Value → Shared → Prop} {s : Shared}
end
section
variable {X : Cx}
/-! ### max, min of a tuple of whole numbers -/
end
section
variable {w : Wd} {W : WX} {X : Cx} {pos p : Pos} {e a b : Expr} {mr : MA} {n : Nat}
/-! ### a set of texts as data -/
end
end PM

/-! PMZipL: list(zip(xs, text)), xs a list of texts. -/
namespace PM
open PySem PySem.Spec PyProof.Rows L2
section
variable {prog : Program} {w : World} {A : Around} {E : Value → Shared → Prop} {s : Shared} {z TI TO i1 i2 : Addr} {fp1 fp2 : List Addr} {n1 n2 i : Nat} {P1 P2 : Nat → Value → Prop} {St1 St2 : Nat → Heap → Prop} {a1 a2 : Value}
/-- the zip between two turns; S: the list that is being filled -/
def ZI (z TI TO i1 i2 S : Addr) (St1 St2 : Nat → Heap → Prop) (i : Nat) (h : Heap) : Prop := IsTupOf2 h TI (.ref i1) (.ref i2) ∧ St1 i h ∧ St2 i h ∧
  ((IsZip h z TI TO .none ∧ ∃ a b, IsTupOf2 h TO a b) ∨ ∃ T f oT, IsZipHeld h z TI TO T f ∧ h.get? T = some oT ∧ T ≠ z ∧ T ≠ i1 ∧ T ≠ i2 ∧ T ≠ S)
theorem ZI.keep {S0 : Addr} (D1 : Draws prog w A i1 fp1 n1 P1 St1) (D2 : Draws prog w A i2 fp2 n2 P2 St2) {h h' : Heap} (hi : ZI z TI TO i1 i2 S0 St1 St2 i h) (hz : S0 ≠ z) (hTI : S0 ≠ TI) (hTO : S0 ≠ TO) (f1 : S0 ∉ fp1) (f2 : S0 ∉ fp2) (k : ∀ b o, b ≠ S0 → h.get? b = some o → h'.get? b = some o) : ZI z TI TO i1 i2 S0 St1 St2 i h' := by
  obtain ⟨e1, st1, st2, hh⟩ := hi
  refine ⟨k _ _ hTI.symm e1, D1.frame _ _ _ st1 fun b hb o e => k b o (fun q => f1 (q ▸ hb)) e, D2.frame _ _ _ st2 fun b hb o e => k b o (fun q => f2 (q ▸ hb)) e, ?_⟩
  rcases hh with ⟨hz', a, b, hTO'⟩ | ⟨T, f, oT, hz', hT, t1, t2, t3, t4⟩
  · exact .inl ⟨k _ _ hz.symm hz', a, b, k _ _ hTO.symm hTO'⟩
  · exact .inr ⟨T, f, oT, k _ _ hz.symm hz', k _ _ t4 hT, t1, t2, t3, t4⟩
/-- the tuples that were made -/
structure ZG (P1 P2 : Nat → Value → Prop) (lo : Addr) (h : Heap) (as : List Addr) : Prop where
  rise : as.Pairwise (· < ·)
  above : ∀ a ∈ as, lo < a
  pairs : ∀ (j : Nat) (a : Addr), as[j]? = some a → ∃ x1 x2, P1 j x1 ∧ P2 j x2 ∧ h.get? a = some { cls := .type "tuple", data := .seq #[x1, x2] }
end
end PM

/-! PMZipM: list(zip(xs, text)): the rule. -/
namespace PM
open PySem PySem.Spec PyProof.Rows L2
section
variable {prog : Program} {w : World} {A : Around} {E : Value → Shared → Prop} {s : Shared} {z TI TO i1 i2 : Addr} {fp1 fp2 : List Addr} {n1 n2 i : Nat} {P1 P2 : Nat → Value → Prop} {St1 St2 : Nat → Heap → Prop} {a1 a2 : Value}
end
/-! ### as tracked objects -/
section
variable {X : Cx} {a b : Expr} {ta : TA} {p p2 pos pos2 : Pos}
end
/-! ### what it is worth -/
section
variable {w : Wd} {W : WX} {X : Cx} {a b : Expr} {mr : MA} {p p2 pos pos2 : Pos}
end
end PM

/-! PMTupS: tuple(text), list(dict). -/
namespace PM
open PySem PySem.Spec PyProof.Rows L2
section
variable {prog : Program} {w : World} {A : Around} {E : Value → Shared → Prop} {s : Shared}
end
section
variable {X : Cx}
end
section
variable {w : Wd} {W : WX} {X : Cx} {pos p : Pos} {e : Expr} {mr : MA}
end
end PM

/-! PMDunN: in, not in of an instance with its own __contains__, as tests. -/
namespace PM
open PySem PySem.Spec PyProof.Rows L2
section
variable {X : Cx} {C g : Addr} {sp : Sp} {n : Nat}
end
section
variable {w : Wd} {W : WX} {X : Cx} {pos p : Pos} {a b e : Expr} {ma mb : ME} {mr : MA} {c n : Nat} {g : Addr} {fn : Fn}
end
end PM

/-! PMFldI: self.f within __init__, where it has been set. -/
namespace PM
open PySem PySem.Spec PyProof.Rows L2
section
variable {w : Wd} {W : WX} {X : Cx} {pos p : Pos} {x f : Str}
end
end PM

/-! PMEqC: ==, != of instances of two classes. -/
namespace PM
open PySem PySem.Spec PyProof.Rows L2
section
variable {w : Wd} {W : WX} {X : Cx} {pos : Pos} {e e' : Expr} {m m' : ME} {c c' n : Nat} {g : Addr} {fn : Fn}
end
end PM

/-! PMSortT: sorted(list of texts), sorted(list of tuples of texts), told by insertion sorts. -/
namespace PM
open PySem PySem.Spec PyProof.Rows L2
open PySem.W (EachIs dataLe alike AllAlike Sortable)
section
variable {w : Wd} {W : WX} {X : Cx} {e : Expr} {mr : MA} {p pos : Pos}
end
end PM

/-! PMLc2: [e for x in it if t for y in it1 if t1]. -/
namespace PM
open PySem L2
section
variable {J : It} {n : Nat} {G : Hp → Prop} {Y : Nat → Hp → V → Hp → Prop}
end
section
variable {w : Wd} {W : WX} {X : Cx} {pos spos py : Pos} {elt tg iter tg1 iter1 : Expr} {ifs ifs1 : List Expr} {scope : Scope} {own : List (Str × Nat)} {mi mi1 : MI} {g g1 : MG} {js js1 vs1 : List Nat} {mt mt1 : MT} {me : ME}
def tiOf (w : Wd) (W : WX) (m : MI) : TI := fun σ H R => ∃ (F : Fr) (O : Av) (ρ : En), F.w = w ∧ Rel F O ρ σ H ∧ Hold F W O σ H (RIt F.w) R (m ρ)
theorem PMI.pe {tg it : Expr} {m : MI} (h : PMI X w W tg it m) : PI X tg it (tiOf w W m) := by
  obtain ⟨te, p, s⟩ := h
  exact ⟨fun pins s0 σ H R I ⟨F, O, ρ, hw, R0, hh⟩ => p.run pins s0 σ H R I (s F O ρ σ H R hw R0 hh)⟩
end
end PM

/-! PMIterI: an instance walked, whose __iter__ gives iter(a tuple that it keeps). -/
namespace PM
open PySem PySem.Spec PyProof.Rows L2
/-- a def's promise that knows how great the heap was at its start -/
def FnRN (P : Program) (w : World) (K : PySem.W.Frag) (mg : Str → Option Value) (base : Heap) (CX : CXT) (k : Nat) (f : Addr) (sp : Nat → Sp) : Prop :=
  ∀ (A : Around) (outer : List Env) (s : Shared) (H : Hp) (us : List Value) (vs : List V) (Q : VK) (E : XK), Room k A → Env0 P w K mg base A outer s H → Vals vs us → sp s.heap.objs.size vs H Q E →
    codeAny (model P w) A (.call (.ref f) ⟨us, []⟩) (CR CX outer P w H s Q E) s
theorem FnRN.mono {P : Program} {w : World} {K : PySem.W.Frag} {mg : Str → Option Value} {base : Heap} {CX : CXT} {j k : Nat} {f : Addr} {sp : Nat → Sp} (F : FnRN P w K mg base CX j f sp) (h : j ≤ k) : FnRN P w K mg base CX k f sp := fun A outer s H us vs Q E hr => F A outer s H us vs Q E (hr.mono h)
section
variable {P : Program} {wo : World} {K : PySem.W.Frag} {mg : Str → Option Value} {base : Heap}
end
section
variable {X : Cx} {C fi : Addr} {i n : Nat} {tg l : Expr} {te : TE}
end
section
variable {w : Wd} {W : WX} {X : Cx} {tg it : Expr} {m : ME} {c i n : Nat} {gi : Addr}
end
end PM

/-! PMInV: x in d.values(), x not in d.values(), texts. -/
namespace PM
open PySem PySem.Spec PyProof.Rows L2
section
variable {prog : Program} {w : World} {K : Type} [DecidableEq K] {knd : KeyKind prog w K} {A : Around} {R : Result → Shared → Prop} {it d : Addr} {ep : Nat} {kvs : List (K × Value)} {z : Str} {t : Tok}
end

section
variable {X : Cx} {a e : Expr} {ta te : TE} {p apos cpos pos : Pos}
end
/-! ### what it is worth -/
section
variable {w : Wd} {W : WX} {X : Cx} {a e : Expr} {ma me : ME} {p apos cpos pos : Pos}
end
end PM

/-! PMStarA: dict displays with a star, at the level of wpAny. -/
namespace PM
open PySem PySem.Spec PyProof.Rows L2
section
variable {prog : Program} {w : World} {K : Type} [DecidableEq K] {knd : KeyKind prog w K} {A : Around} {E : Value → Shared → Prop} {s : Shared}
end
end PM

/-! PMStarB: {**d, k: v}, {k: v, .., **d}. -/
namespace PM
open PySem PySem.Spec PyProof.Rows L2
section
variable {X : Cx} {pins : List (Addr × Obj)} {σ : L2.St} {H : Hp} {s : Shared} {p : Addr} {o : HO}
end
section
variable {P : Program} {w : World} {A : Around} {E : Value → Shared → Prop} {s : Shared}
end
/-! ### the plain side -/
section
variable {w : Wd} {W : WX} {X : Cx} {pos : Pos} {e k v k2 v2 : Expr} {me mk mv mk2 mv2 : ME}
end
/-! ### {k: v, k2: v2}, anything within -/
section
variable {w : Wd} {W : WX} {X : Cx} {pos : Pos} {k v k2 v2 : Expr} {mk mv mk2 mv2 : ME}
end
end PM

/-! PMSwapK: d[a], d[b] = e, d an own dict. -/
namespace PM
open PySem PySem.Spec PyProof.Rows L2
section
variable {w : Wd} {W : WX} {X : Cx} {x : Str} {p p2 pos pos2 : Pos} {k1 k2 e : Expr} {mk1 mk2 m : ME}
end
end PM

/-! PMZipLL: list(zip(xs, ys)), two lists. -/
namespace PM
open PySem PySem.Spec PyProof.Rows L2
section
variable {X : Cx} {a b : Expr} {ta : TA} {p p2 pos pos2 : Pos}
end
/-! ### what it is worth -/
section
variable {w : Wd} {W : WX} {X : Cx} {a b : Expr} {mr : MA} {p p2 pos pos2 : Pos}
end
end PM

/-! PMTupK: tuple(d). -/
namespace PM
open PySem PySem.Spec PyProof.Rows L2
section
variable {prog : Program} {w : World} {A : Around} {E : Value → Shared → Prop} {s : Shared} {T : String} {r d : Addr} {n : Nat} {P : Nat → Value → Prop} {OK : Heap → Prop}
end
section
variable {X : Cx}
end
section
variable {w : Wd} {W : WX} {X : Cx} {pos p : Pos} {e : Expr} {mr : MA}
end
end PM

/-! PMEqV: == of lists and dicts, nested, where they are equal. -/
namespace PM
open PySem PySem.Spec PyProof.Rows L2
section
variable {X : Cx} {pins : List (Addr × Obj)} {σ : L2.St} {H : Hp} {s : Shared}
end
/-! ### what it is worth: alike, and told in the same order -/
section
variable {w : Wd} {W : WX} {X : Cx} {pos : Pos} {a b : Expr} {ma mb : ME} {k : Nat}
end
end PM

/-! PMParOE: x, y = e, e2 by a tuple (names that are cells): x one's own, e2 anything. -/
namespace PM
open PySem PySem.Spec PyProof.Rows L2
section
variable {w : Wd} {W : WX} {X : Cx} {x y : Str} {pos : Pos} {a b : Expr} {m m2 : ME}
end
end PM

/-! PMUnl: a, b = e, e a list. -/
namespace PM
open PySem PySem.Spec PyProof.Rows L2
section
variable {w : Wd} {X : Cx} {pos : Pos}
end
end PM

/-! PMDicN: dict(a list of pairs), the keys tuples, each once. -/
namespace PM
open PySem PySem.Spec PyProof.Rows L2
section
variable {X : Cx} {pins : List (Addr × Obj)} {σ : L2.St} {H : Hp} {s : Shared}
end
section
variable {w : Wd} {W : WX} {X : Cx} {pos p : Pos} {e : Expr} {mr : MA} {n : Nat}
end
end PM

/-! ==, !=, in, not in, where a dict meets what is no dict -/
namespace PM
open PySem PySem.Spec PyProof.Rows L2 PySem.SeqAt PySem.MeetsSeq AutoSeq1
/-! ### subtypes -/
/-! ### the other side declines -/
/-! ### a dict and what is none -/
def IsD (s : Shared) (l : Addr) : Prop := ∃ (o : Obj) (es : Array DictEntry) (ep : Nat), s.heap.get? l = some o ∧ o.cls = .type "dict" ∧ o.data = .dict es ep
section
variable {A : Around} {s : Shared} {a : Addr}
theorem IsD.ty (h : IsD s a) : s.TypeIs (.ref a) "dict" := by
  obtain ⟨o, es, ep, h1, h2, _⟩ := h
  exact ⟨o, h1, h2⟩
/-- what is no dict -/
inductive NoDv (s : Shared) : Value → Prop
  | non : NoDv s .none
  | bl (b : Bool) : NoDv s (.bool b)
  | int (i : Int) (t : Tok) : NoDv s (.int i t)
  | str (x : Str) (t : Tok) : NoDv s (.str x t)
  | lst {l : Addr} {items : Array Value} (h : s.heap.IsList l items) : NoDv s (.ref l)
  | tup {l : Addr} {items : Array Value} (h : s.heap.IsTuple l items) : NoDv s (.ref l)
end
/-! ### as operators -/
section
variable {X : Cx} {pins : List (Addr × Obj)} {σ : L2.St} {H : Hp} {s : Shared} {v : V} {u : Value}
end
/-! ### as data -/
section
variable {w : Wd} {W : WX} {X : Cx} {pos : Pos} {a b : Expr} {ma mb : ME} {O : Av} {H : Hp} {d : D} {v : V}
end
end PM

/-! C(..) whose __init__ may raise; o.m(..), m a method that may raise -/
namespace PM
open PySem PySem.Spec PyProof.Rows L2
section
variable {P : Program} {wo : World} {K : PySem.W.Frag} {mg : Str → Option Value} {base : Heap} {w : Wd}
theorem init_okX (hT : w.T = []) {c : Nat} {x qual : Str} {st : Stmt} {f : Addr} {fd : FuncData} {N ps : List Str} {k : Nat} {m : MS} (F : Fun K x qual st f fd) (S : FnScope N ps (defScope st)) (hl : ps.length ≤ N.length)
    (hb : ∀ (cdv : Value) (A : Around) (outer : List Env) (s : Shared) (H : Hp) (E : XK), Room k (A.deeper (envOfC qual (defScope st) s.heap.objs.size f cdv)) → Takes (cxOf (L2.CX P wo) P wo K mg base N qual (defScope st) f cdv A outer s H E) (WF E) →
      PassesOwn (model P wo) (cxOf (L2.CX P wo) P wo K mg base N qual (defScope st) f cdv A outer s H E).A (cxOf (L2.CX P wo) P wo K mg base N qual (defScope st) f cdv A outer s H E).env (cxOf (L2.CX P wo) P wo K mg base N qual (defScope st) f cdv A outer s H E).xe →
      PMSs (cxOf (L2.CX P wo) P wo K mg base N qual (defScope st) f cdv A outer s H E) w (WF E) (defBody st) m) : FnOk P wo K mg base (L2.CX P wo) (k + 1) f fd ps (spIn w c ps.length (fnSem N.length ps.length m)) := by
  have len : ∀ vs H Q E, spIn w c ps.length (fnSem N.length ps.length m) vs H Q E → vs.length = ps.length := fun vs H Q E h => by
    obtain ⟨x, dx, vs', _, _, O, om, ds, _, hl, _⟩ := h
    exact hl
  refine F.okX S len fun cdv A outer s H vs Q E hr h => ?_
  obtain ⟨t, p, sm⟩ := hb cdv A outer s H E hr (takes_of rfl rfl rfl rfl) (passes_of rfl)
  obtain ⟨x, dx, vs', rfl, hsl, h⟩ := h
  refine ⟨_, pss_re (C := w.cl c) p, x, dx, ?_, hsl, body_ok hT sm (fun _ _ _ _ z => z) hl h⟩
  exact start_get (by rfl)
/-- the class c, its __init__, which may raise -/
structure MkX (P : Program) (wo : World) (K : PySem.W.Frag) (mg : Str → Option Value) (base : Heap) (w : Wd) (c n j : Nat) (f : Fn) : Prop where
  ex : ∃ g fd ps, ps.length = n + 1 ∧ Mk K (w.cl c) g ∧ FnOk P wo K mg base (L2.CX P wo) j g fd ps (spIn w c (n + 1) f) ∧ Binds K fd ps []
theorem MkX.wT {c n j : Nat} {f : Fn} (h : MkX P wo K mg base w c n j f) (T : List (Addr × Str)) : MkX P wo K mg base (w.wT T) c n j f := by
  obtain ⟨g, fd, ps, h1, h2, h3, h4⟩ := h.ex
  exact ⟨⟨g, fd, ps, h1, h2, by rw [spIn_T]; exact h3, h4⟩⟩
end
section
variable {w : Wd} {W : WX} {X : Cx} {pos p : Pos} {e : Expr} {es : List Expr} {mr : MA} {x : Str} {c n k : Nat} {fn : Fn} {E : XK}
theorem make_coreX {O : Av} {H : Hp} {xs : List D} {vs : List V} {xc : Xc} {o1 : Option Mu} {Q : VK} (dm : Dm O H) (hl : xs.length = n) (e : fn (some (.ins c [])) xs = .exc xc o1) (ho : o1.isSome = true) (rs : RepL w O H xs vs) (g : ∀ H' cls d, Grow H H' → XcAt w O H' cls d xc → E cls d H') :
    ∀ x dx, H x = none → H dx = none → dx ≠ x → spIn w c (n + 1) fn (V.ref x :: vs) (upd (upd H dx (.own x)) x (.ins (w.cl c) dx [])) (fun v H2 => v = .non ∧ Q (.ref x) H2) E := by
  intro x dx hx hdx ne
  refine ⟨x, dx, vs, rfl, .inl ⟨upd_same, rfl⟩, ?_⟩
  generalize hH : SlX.slH (upd (upd H dx (.own x)) x (.ins (w.cl c) dx [])) x (w.cl c) dx [] = H3
  have e1 : H3 x = some (SlX.SlO x (w.cl c) dx []) := by rw [← hH]; unfold SlX.slH; rw [upd_same]
  have e2 : H3 dx = some (.xd []) := by rw [← hH]; unfold SlX.slH; rw [upd_ne ne, upd_same]
  have gr : Grow H H3 := fun a o q => by
    have n1 : a ≠ x := fun z => by rw [z, hx] at q; cases q
    have n2 : a ≠ dx := fun z => by rw [z, hdx] at q; cases q
    rw [← hH, SlX.slH_ne n1 n2, upd_ne n1, upd_ne n2]
    exact q
  have nox : ¬ O x := fun q => dm x q hx
  have nodx : ¬ ins O x dx := fun q => q.elim (fun q => dm dx q hdx) ne
  refine ⟨ins O x, some (.ins c []), xs, fun a q => ?_, by rw [List.length_cons, rs.length, hl], ⟨x, vs, rfl, .inr rfl, ⟨dx, [], e1, ne, nodx, e2, rfl⟩, RepL.step (ins_step gr hx) xs vs rs⟩, ?_⟩
  · rcases q with q | q
    · exact gr.dom (dm a q)
    · rw [q, e1]; simp
  · rw [e]
    refine ⟨by rw [ho]; rfl, fun H' cls d sy _ xa => g H' cls d (fun a o q => sy.kept a o (fun z => ?_) (gr a o q)) (xa.step fun a q => .inl q)⟩
    have z2 := z.2
    simp at z2
    rw [← z2, hx] at q
    cases q
def mMakeX (c : Nat) (f : Fn) (mr : MA) : ME := fun ρ => (mr ρ).bind fun xs ρ1 => match f (some (.ins c [])) xs with
  | .exc xc (some _) => .exc xc ρ1
  | _ => lift (mkF c f xs) ρ1
theorem sim_makeX {t : TA} (hr : SimA w (WF E) t mr) (hn : ∀ (ρ ρ1 : En) (xs : List D), mr ρ = .ok xs ρ1 → xs.length = n) : Sim w (WF E) (tMake (w.cl c) (spIn w c (n + 1) fn) [] E t) (mMakeX c fn mr) := fun F O ρ σ H Q hw R hh => by
  subst hw
  have key : Hold F (WF E) O σ H (RV F σ H) Q ((mr ρ).bind fun xs ρ1 => if xs.length = n then (match fn (some (.ins c [])) xs with
    | .exc xc (some _) => .exc xc ρ1
    | _ => lift (mkF c fn xs) ρ1) else .stuck) := by
    unfold mMakeX at hh
    cases q : mr ρ with
    | ok xs ρ1 =>
      rw [q] at hh
      show Hold F (WF E) O σ H (RV F σ H) Q (if xs.length = n then _ else _)
      rw [if_pos (hn ρ ρ1 xs q)]
      exact hh
    | exc x ρ1 => rw [q] at hh; exact hh
    | stuck => rw [q] at hh; exact hh
  refine hr.bind rfl R key fun xs vs ρ1 O1 H1 st1 R1 rs h1 => ?_
  split at h1
  · rename_i hl
    split at h1
    · rename_i xc mu q
      intro x dx hx hdx ne
      rw [List.append_nil]
      exact make_coreX R1.dom hl q rfl rs (fun H' cls d g xa => h1 O1 H' cls d (st1.trans g.step) (R1.grow g) xa) x dx hx hdx ne
    · cases q : mkF c fn xs with
      | none => rw [q] at h1; exact h1.elim
      | some z =>
        rw [q] at h1
        intro x dx hx hdx ne
        rw [List.append_nil]
        exact make_core R1.dom hl q rs (h1.go st1 R1) x dx hx hdx ne
  · exact h1.elim
theorem pm_makeX (tk : Takes X (WF E)) (M : MkX X.prog X.w X.K X.mg X.base w c n k fn) (hr : Room (k + 1) X.A) (hg : Gl X x) (hm : X.mg x = some (.ref (w.cl c))) (ha : PMA X w (WF E) (e :: es) mr) (hn : Len mr n) (hdb : (x == ("__debug__" : Str)) = false := by decide)
    (he : starEach (e :: es) X.env = (false, eval e X.env) :: starEach es X.env := by rfl) (hpl : (backTo pos (starEach es X.env)).any (·.1) = false := by rfl) : PM X w (WF E) (.Call (.Name x p) (e :: es) [] pos) (mMakeX c fn mr) := by
  obtain ⟨g, fd, ps, hl, M, F, hb⟩ := M.ex
  obtain ⟨ta, pa, sa⟩ := ha
  exact ⟨_, pe_make M F hr hg hm hb .nil (passes_call tk fun _ _ _ _ z => z) pa hdb he hpl, sim_makeX sa fun ρ ρ1 xs q => hn ρ ρ1 xs q⟩
end
/-! ### methods -/
section
variable {w : Wd} {W : WX} {X : Cx} {pos apos : Pos} {o e : Expr} {es : List Expr} {m : ME} {mr : MA} {f : Str} {E : XK}
def mMethX (c : Nat) (fn : Fn) (m : ME) (mr : MA) : ME := fun ρ => (m ρ).bind fun x ρ1 => if isObj c x.1 = true then (mr ρ1).bind fun xs ρ2 => (match fn none (x.1 :: xs) with
  | .ret z none => .ok z ρ2
  | .exc xc none => .exc xc ρ2
  | _ => .stuck) else .stuck
theorem sim_methX {c k : Nat} {fn : Fn} {ta : TE} {t : TA} (sa : Sim w (WF E) ta m) (sr : SimA w (WF E) t mr) (hn : ∀ (ρ ρ1 : En) (xs : List D), mr ρ = .ok xs ρ1 → xs.length + 1 = k) : Sim w (WF E) (SlX.tMethSl (w.cl c) (spOf w k fn) E ta t) (mMethX c fn m mr) := fun F O ρ σ H Q hw R hh => by
  subst hw
  refine sa.bind rfl R hh fun x v ρ1 O1 H1 st1 R1 rx h1 => ?_
  split at h1
  · rename_i ho
    obtain ⟨fs, ex⟩ := isObj_some ho
    have rx' := rx
    rw [ex] at rx'
    obtain ⟨a, dx, vs, rfl, hsl, hrr⟩ := slt_of rx'
    refine ⟨a, dx, _, rfl, hsl, ?_⟩
    have key : Hold F (WF E) O1 σ H1 (RV F σ H1) Q ((mr ρ1).bind fun xs ρ2 => if xs.length + 1 = k then (match fn none (x.1 :: xs) with
      | .ret z none => .ok z ρ2
      | .exc xc none => .exc xc ρ2
      | _ => .stuck) else .stuck) := by
      have h1 := h1.laterV st1
      cases q : mr ρ1 with
      | ok xs ρ2 =>
        rw [q] at h1
        show Hold F (WF E) O1 σ H1 (RV F σ H1) Q (if xs.length + 1 = k then _ else _)
        rw [if_pos (hn ρ1 ρ2 xs q)]
        exact h1
      | exc x ρ2 => rw [q] at h1; exact h1
      | stuck => rw [q] at h1; exact h1
    refine sr.bind rfl R1 key fun xs us ρ2 O2 H2 st2 R2 rs h2 => ?_
    split at h2
    · rename_i hk
      refine ⟨O2, none, x.1 :: xs, R2.dom, by simp [rs.length, ← hk], ?_, ?_⟩
      · show RepL F.w O2 H2 (x.1 :: xs) (.ref a :: us)
        simp only [RepL]
        exact ⟨_, us, rfl, Rep.step st2 _ _ rx, rs⟩
      · split at h2
        · rename_i z hz
          rw [hz]
          refine ⟨rfl, fun H' v sy rf => ?_⟩
          have g : Grow H2 H' := fun a o e => sy.kept a o (fun q => by cases q.1) e
          obtain ⟨d, b⟩ := z
          cases b with
          | false => exact h2 O2 H' v (st2.trans g.step) (R2.grow g) rf.1
          | true =>
            obtain ⟨a, m, e1, e2, e3, e4, _⟩ := rf
            exact h2 (ins O2 a) H' v (st2.trans (ins_step g e2)) (R2.guard g e2 e4.some) ⟨a, m, e1, st2.none_back e2, .inr rfl, e3, e4, R2.apart e2⟩
        · rename_i z hz
          rw [hz]
          refine ⟨rfl, fun H' cls d sy _ xa => ?_⟩
          have g : Grow H2 H' := fun a o e => sy.kept a o (fun q => by cases q.1) e
          exact h2 O2 H' cls d (st2.trans g.step) (R2.grow g) xa
        · exact h2.elim
    · exact h2.elim
  · exact h1.elim
theorem pm_methX {c n k : Nat} {g : Addr} {fn : Fn} {pl : Sem Bool} (tk : Takes X (WF E)) (hK : w.K = X.K) (hp : MethOk w c f g) (F : MthX X.prog X.w X.K X.mg X.base w g (n + 1) k fn) (hr : Room k X.A) (ho : PM X w (WF E) o m) (ha : PMA X w (WF E) (e :: es) mr) (hn : Len mr n)
    (hst : starEach (e :: es) X.env = (false, eval e X.env) :: starEach es X.env := by rfl) (hpl : (backTo pos (starEach es X.env)).any (·.1) = false := by rfl)
    (ht : eval (.Call (.Attribute o f apos) (e :: es) [] pos) X.env = (do
      let ov ← eval o X.env
      standAt apos.atName
      let (f, first) ← holding [ov] (getMethod ov f pl)
      callWith pos f first (backTo pos (starEach (e :: es) X.env)) (backToKw pos (keywordEach [] X.env))) := by rfl) : PM X w (WF E) (.Call (.Attribute o f apos) (e :: es) [] pos) (mMethX c fn m mr) := by
  obtain ⟨to, po, so⟩ := ho
  obtain ⟨ta, pa, sa⟩ := ha
  exact ⟨_, SlX.pe_methSl (pl := pl) (E := E) po (hK ▸ hp.sc) (hK ▸ hp.mt) F hr (passes_call tk fun _ _ _ _ z => z) pa hst hpl ht, sim_methX so sa fun ρ ρ1 xs q => by rw [hn ρ ρ1 xs q]⟩
end
end PM

/-! try with clauses some of which name the error; no error leaves it -/
namespace PM
open PySem PySem.Spec PyProof.Rows L2
/-- a clause: its class, whether it names the error, its suite -/
abbrev ClM := Value × Bool × (Addr → Value → Option Addr → TS)
/-- what the clauses wish -/
def wM (K : PySem.W.Frag) (i : Nat) (D : Ends) : List ClM → WX
  | [] => W0
  | (c, true, ts) :: r => fun cls d σ H => ∃ b, PySem.W.exmOne K cls c = some b ∧ (b = true → ∀ a, H a = none → ts a cls d (endsN i D) (σ.set i (some (.ref a))) H) ∧ (b = false → wM K i D r cls d σ H)
  | (c, false, ts) :: r => fun cls d σ H => ∃ b, PySem.W.exmOne K cls c = some b ∧ (b = true → ∀ a, H a = none → ts a cls d D σ H) ∧ (b = false → wM K i D r cls d σ H)
inductive HdMx (X : Cx) (n : Str) : List ExceptHandler → List ClM → Prop
  | nil : HdMx X n [] []
  | named {x : Str} {c : Value} {ts : Addr → Value → Option Addr → TS} {st : Stmt} {su : List Stmt} {np ps : Pos} {hs : List ExceptHandler} {l : List ClM} (nm : Names X x c)
      (ok : ∀ (a : Addr) (oe : Obj) (cls : Value) (d : Option Addr) (pn : List (Addr × Obj)), Zc cls d oe → (∃ vs, oe.data = .fields vs) → PSs (X.suite a ((a, oe) :: pn)) (st :: su) (ts a cls d)) (r : HdMx X n hs l) :
      HdMx X n (.ExceptHandler (some (.Name x np)) (some n) (st :: su) ps :: hs) ((c, true, ts) :: l)
  | plain {x : Str} {c : Value} {ts : Addr → Value → Option Addr → TS} {st : Stmt} {su : List Stmt} {np ps : Pos} {hs : List ExceptHandler} {l : List ClM} (nm : Names X x c)
      (ok : ∀ (a : Addr) (oe : Obj) (cls : Value) (d : Option Addr) (pn : List (Addr × Obj)), Zc cls d oe → (∃ vs, oe.data = .fields vs) → PSs (X.suite a ((a, oe) :: pn)) (st :: su) (ts a cls d)) (r : HdMx X n hs l) :
      HdMx X n (.ExceptHandler (some (.Name x np)) none (st :: su) ps :: hs) ((c, false, ts) :: l)
section
variable {X : Cx} {n : Str} {i : Nat} {body : List Stmt} {hd : ExceptHandler} {hs : List ExceptHandler} {l : List ClM} {pos : Pos} {tb : WX → TS}
theorem ps_tryMx (es : X.stack = X.env :: X.outer) (ef : X.env.frame = some X.env.locals) (nd : X.N.Nodup) (ei : X.N[i]? = some n) (el : X.env.kindOf n = some .local)
    (hb : ∀ (W : WX) (pn : List (Addr × Obj)) (xe : Value → Shared → Prop), Takes (X.tr pn xe) W → PassesOwn (model X.prog X.w) X.A X.env xe → PSs (X.tr pn xe) body (tb W))
    (hh : HdMx X n (hd :: hs) l) : PS X (.Try body (hd :: hs) [] [] pos) (fun D σ H => tb (wM X.K i D l) D σ H) := by
  refine ⟨fun pins s σ H D I wish => ?_⟩
  have xok := I.ok
  have frame : X.A.frames = some (X.env :: X.outer) := xok.frames.trans (congrArg some es)
  refine wpAny_Try_except (wpAny_mono ((hb (wM X.K i D l) (X.pn ++ pins) (fun er t1 => wpAny (model X.prog X.w) X.A (noteFrame er X.env) (fun _ t2 => wpAny (model X.prog X.w) X.A (setFlight er none) (fun _ t3 =>
    wpAny (model X.prog X.w) X.A (handleBy er X.env (hd :: hs)) (SP X pins D) X.xe t3) X.xe t2) X.xe t1) (fun u s' air => ?_) PassesOwn.looking).run [] s σ H D (I.toTry _) wish) (fun fl s1 sp => ?_) (fun _ _ z => z))
  · obtain ⟨a, B, sI, pins', σ1, H1, cls, d, rfl, J0, nb, up, sky, na, eos, ag, wi⟩ := air
    have J : Inv X pins σ1 H1 sI := J0.ofTry xok
    rw [es] at sky
    show wpAny (model X.prog X.w) X.A (noteFrame (.ref a) X.env) _ _ _
    refine Sky.land Zc.steady frame ef sky fun g3 fly up3 => ?_
    have J3 : Inv X pins σ1 H1 { s' with heap := g3 } := J.landed nb fly.1 (up.trans up3) eos ag
    obtain ⟨o3, v3, at3, z3, dt3⟩ := fly.there
    have nofr : a ∉ frs (X.env :: X.outer) := fun mem => by
      obtain ⟨_, o', e', nf⟩ := fly.2.2.1.mem mem
      rw [at3] at e'
      cases e'
      exact nf _ dt3
    have aL : a ≠ X.env.locals := fun z => nofr (List.mem_filterMap.mpr ⟨X.env, by simp, by rw [ef, z]⟩)
    have aF : a ∉ X.fs := fun mem => by
      obtain ⟨ev, hev, q⟩ := List.mem_filterMap.mp mem
      exact nofr (List.mem_filterMap.mpr ⟨ev, by simp [hev], q⟩)
    have S3 := J3.suite at3 dt3 na aL aF
    have ask : ∀ {x : Str} {c : Value} {np : Pos}, Names X x c → ∀ {Q : Value → Shared → Prop} {E : Value → Shared → Prop}, Q c { s' with heap := g3 } → wpAny (model X.prog X.w) (X.A.mark (some (.ref a))) (eval (.Name x np) X.env) Q E { s' with heap := g3 } := by
      intro x c np nm Q E z
      obtain ⟨gl, dbg, em | ⟨em, ev, nn⟩⟩ := nm
      · exact ld_glob (X := X.suite a ((a, o3) :: (X.pn ++ pins))) S3 gl em z dbg
      · exact ld_blt (X := X.suite a ((a, o3) :: (X.pn ++ pins))) S3 gl em ev z nn dbg
    have typ : PySem.W.Looks (model X.prog X.w) g3 (typeOf (.ref a)) cls := fun _ _ _ _ k z => wpAny_typeOf_ref (k _ _ at3) (by rw [z3.1]; exact z)
    have each : ∀ {hs' : List ExceptHandler} {l' : List ClM}, HdMx X n hs' l' → wM X.K i D l' cls d σ1 H1 → wpAny (model X.prog X.w) X.A (handleBy (.ref a) X.env hs') (SP X pins D) X.xe { s' with heap := g3 } := by
      intro hs' l' hk
      induction hk with
      | nil => exact fun z => z.elim
      | @named x c ts st su np ps hs2 l2 nm ok r ih =>
        rintro ⟨b, eb, yes, no⟩
        refine wpAny_handleBy_cons (codeAny_handlers_test ?_) (by intro z; cases z)
        have met := PySem.W.exm_one (M := model X.prog X.w) (J3.kIn) typ eb
        refine ask nm (met.here ?_)
        cases b with
        | false => exact ih (no rfl)
        | true =>
          refine codeAny_handlers_suite_as (HandSPX.lands_againZ fly fun g4 fly4 up4 => ?_)
          have J4 : Inv X pins σ1 H1 { s' with heap := g4 } := J.landed nb fly4.1 ((up.trans up3).trans up4) eos ag
          obtain ⟨o4, v4, at4, z4, dt4⟩ := fly4.there
          have S4 := J4.suite at4 dt4 na aL aF
          refine store_ok (X := X.suite a ((a, o4) :: (X.pn ++ pins))) (v := .ref a) S4 nd ei (.inl el) rfl (fun s5 S5 => ?_) (.inr el)
          refine wpAny_mono ((ok a o4 cls d (X.pn ++ pins) z4 ⟨_, dt4⟩).run [] s5 _ H1 _ S5 (yes rfl a na)) (fun fl s6 sp => ?_) (fun _ _ z => False.elim z)
          have over : ∀ {σ6 : L2.St} {H6 : Hp} {Q : Shared → Prop}, Inv (X.suite a ((a, o4) :: (X.pn ++ pins))) [] σ6 H6 s6 → (∀ s7, Inv X pins (σ6.set i none) H6 s7 → Q s7) →
              wpAny (model X.prog X.w) X.A (do bindName X.env n .none; unbindBehindTheSuite X.env n ps) (fun _ s7 => Q s7) X.xe s6 := fun S6 hq => gone_ok (S6.unsuite xok) nd ei el hq
          cases fl with
          | next =>
            obtain ⟨_, _, S6, z⟩ := sp
            exact over S6 fun _ J7 => ⟨_, _, J7, z⟩
          | brk =>
            obtain ⟨_, _, S6, z⟩ := sp
            exact over S6 fun _ J7 => ⟨_, _, J7, z⟩
          | cont =>
            obtain ⟨_, _, S6, z⟩ := sp
            exact over S6 fun _ J7 => ⟨_, _, J7, z⟩
          | ret u =>
            obtain ⟨_, _, _, S6, rr, z⟩ := sp
            exact over S6 fun _ J7 => ⟨_, _, _, J7, rr, z⟩
      | @plain x c ts st su np ps hs2 l2 nm ok r ih =>
        rintro ⟨b, eb, yes, no⟩
        refine wpAny_handleBy_cons (codeAny_handlers_test ?_) (by intro z; cases z)
        have met := PySem.W.exm_one (M := model X.prog X.w) (J3.kIn) typ eb
        refine ask nm (met.here ?_)
        cases b with
        | false => exact ih (no rfl)
        | true =>
          refine codeAny_handlers_suite (HandSPX.lands_againZ fly fun g4 fly4 up4 => ?_)
          have J4 : Inv X pins σ1 H1 { s' with heap := g4 } := J.landed nb fly4.1 ((up.trans up3).trans up4) eos ag
          obtain ⟨o4, v4, at4, z4, dt4⟩ := fly4.there
          have S4 := J4.suite at4 dt4 na aL aF
          refine wpAny_mono ((ok a o4 cls d (X.pn ++ pins) z4 ⟨_, dt4⟩).run [] _ _ H1 _ S4 (yes rfl a na)) (fun fl s6 sp => ?_) (fun _ _ z => False.elim z)
          cases fl with
          | next =>
            obtain ⟨_, _, S6, z⟩ := sp
            exact ⟨_, _, S6.unsuite xok, z⟩
          | brk =>
            obtain ⟨_, _, S6, z⟩ := sp
            exact ⟨_, _, S6.unsuite xok, z⟩
          | cont =>
            obtain ⟨_, _, S6, z⟩ := sp
            exact ⟨_, _, S6.unsuite xok, z⟩
          | ret u =>
            obtain ⟨_, _, _, S6, rr, z⟩ := sp
            exact ⟨_, _, _, S6.unsuite xok, rr, z⟩
    exact each hh wi
  · cases fl with
    | next =>
      obtain ⟨_, _, K1, z⟩ := sp
      exact wpAny_execs_nil ⟨_, _, K1.ofTry xok, z⟩
    | brk =>
      obtain ⟨_, _, K1, z⟩ := sp
      exact ⟨_, _, K1.ofTry xok, z⟩
    | cont =>
      obtain ⟨_, _, K1, z⟩ := sp
      exact ⟨_, _, K1.ofTry xok, z⟩
    | ret u =>
      obtain ⟨_, _, _, K1, rr, z⟩ := sp
      exact ⟨_, _, _, K1.ofTry xok, rr, z⟩
end
/-! ### suites -/
/-- return z -/
def tSuC (z : Str) (a : Addr) (cls : Value) (d : Option Addr) : TS := tRet (tC (.str z))
/-- return z + repr(n.f) -/
def tSuR (K : PySem.W.Frag) (i : Nat) (C : Addr) (f z : Str) (a : Addr) (cls : Value) (d : Option Addr) : TS := fun E σ H => cls = .ref C ∧ ∃ (dd : Addr) (fs : List (Str × V)) (v : V) (w : Wd) (O : Av) (x : D) (s : Str), d = some dd ∧ σ[i]? = some (some (.ref a)) ∧ H dd = some (.xd fs) ∧ fs.lookup f = some v ∧ w.K = K ∧ Rep w O H x v ∧ repTxt z x = some s ∧ E.rt (.str s) H
section
variable {X : Cx} {i : Nat} {C a : Addr} {oe : Obj} {cls : Value} {d : Option Addr} {pn : List (Addr × Obj)} {f z n : Str} {q0 q1 q2 q3 q4 q5 q6 : Pos} {j : Nat}
theorem suR_ok (hs : (X.K.lookup sysModules).isSome = true) (hgu : X.A.guards = some []) (hu : X.A.units + 64 < cLine) (T : XfC X.K C) (hno : PySem.W.findIn X.K (.ref C) f = some none) (hz : Zc cls d oe) (hf : ∃ vs, oe.data = .fields vs) (hgr : Gl X "repr") (hmr : X.mg "repr" = none) (hi : X.N[i]? = some n) (hv : Vis X.env.scope n) (hn1 : (n == ("__debug__" : Str)) = false) (hn2 : (n == ("__classdict__" : Str)) = false)
    (hab : attributeBase (.Name n q1) f X.env (eval (.Name n q1) X.env) = eval (.Name n q1) X.env) (he : starEach [Expr.Attribute (.Name n q1) f q6] X.env = (false, eval (.Attribute (.Name n q1) f q6) X.env) :: starEach [] X.env) : PSs (X.suite a ((a, oe) :: pn)) [.Return (some (.BinOp (.Constant (.str z) j q0) .Add (.Call (.Name "repr" q2) [.Attribute (.Name n q1) f q6] [] q3) q4)) q5] (tSuR X.K i C f z a cls d) := by
  refine ⟨fun pins s σ H E I ⟨ec, dd, fs, u, w, O, y, t, ed, h0, h1, h2, hK, h3, h4, h⟩ => ?_⟩
  subst ec
  subst ed
  have px : PE (X.suite a ((a, oe) :: pn)) (.Attribute (.Name n q1) f q6) (tXf a (.ref C) (some dd) C f (tVar i)) := pe_xf T hno hz hf (pe_var (X := X.suite a ((a, oe) :: pn)) hi hv hn1 hn2) hab
  have pr : PE (X.suite a ((a, oe) :: pn)) (.Call (.Name "repr" q2) [.Attribute (.Name n q1) f q6] [] q3) (tCB (rReprX X.K) (tCons (tXf a (.ref C) (some dd) C f (tVar i)) tNil)) := pe_callB (X := X.suite a ((a, oe) :: pn)) (call_reprX (X := X.suite a ((a, oe) :: pn)) hs hgu hu) hgr hmr (by decide +kernel) (pa_cons px pa_nil he) (by decide) (by decide) he (by rfl)
  refine (pss_one (ps_ret (pos := q5) (pe_op (pos := q4) op_add_str (pe_str (X := X.suite a ((a, oe) :: pn)) (pos := q0) (j := j)) pr))).run pins s σ H E I ?_
  unfold repTxt reprX at h4
  cases e1 : pyX y with
  | none => rw [e1] at h4; cases h4
  | some p =>
    rw [e1] at h4
    simp only [Option.bind_some] at h4
    split at h4
    · rename_i s0 e2
      split at h4
      · rename_i hl
        cases h4
        split at e2
        · rename_i hp
          cases e2
          exact ⟨.ref a, h0, rfl, rfl, dd, fs, u, rfl, h1, h2, w, O, y, p, u, hK, rfl, h3, e1, hp.1, hp.2.1, hp.2.2, z, p.shown, rfl, rfl, hl, h⟩
        · cases e2
      · cases h4
    · cases h4
end
end PM

/-! f(lambda: e), where f tries it and tells, in words, which error came, and what some of them keep -/
namespace PM
open PySem PySem.Spec PyProof.Rows L2 LamX
/-- a clause: its class, the field that is shown, if any, the text -/
structure CD where
  C : Addr
  f : Option Str
  z : Str
def hitC (K : PySem.W.Frag) (q : CD) (cls : Value) (d : Option Addr) (H : Hp) (Q : VK) : Prop := match q.f with
  | none => Q (.str q.z) H
  | some f => cls = .ref q.C ∧ ∃ (dd : Addr) (fs : List (Str × V)) (v : V) (w : Wd) (O : Av) (x : D) (s : Str), d = some dd ∧ H dd = some (.xd fs) ∧ fs.lookup f = some v ∧ w.K = K ∧ Rep w O H x v ∧ repTxt q.z x = some s ∧ Q (.str s) H
def eC (K : PySem.W.Frag) (Q : VK) : List CD → XK
  | [] => fun _ _ _ => False
  | q :: r => fun cls d H => ∃ b, PySem.W.exmOne K cls (.ref q.C) = some b ∧ (b = true → hitC K q cls d H Q) ∧ (b = false → eC K Q r cls d H)
def TToldX (K : PySem.W.Frag) (cs : List CD) (last : Option Str) : (XK → Hp → VK → Prop) → Hp → VK → Prop := fun tl H Q =>
  tl (eC K Q cs) H (match last with
    | none => Q
    | some z => fun _ H' => Q (.str z) H')
/-- the clauses as written -/
inductive HdC (K : PySem.W.Frag) (mg : Str → Option Value) (N : List Str) (sg : Scope) (n : Str) : List ExceptHandler → List CD → Prop
  | nil : HdC K mg N sg n [] []
  | plain {e z : Str} {C : Addr} {j : Nat} {p4 p5 p6 p7 : Pos} {hs : List ExceptHandler} {cs : List CD} (hge : sg.names.lookup e = some .globalImplicit) (hme : mg e = some (.ref C)) (r : HdC K mg N sg n hs cs) (hde : (e == ("__debug__" : Str)) = false := by decide) :
      HdC K mg N sg n (.ExceptHandler (some (.Name e p4)) none [.Return (some (.Constant (.str z) j p5)) p6] p7 :: hs) (⟨C, none, z⟩ :: cs)
  | named {e z f : Str} {C : Addr} {j : Nat} {p4 p7 q0 q1 q2 q3 q4 q5 q6 : Pos} {hs : List ExceptHandler} {cs : List CD} (hge : sg.names.lookup e = some .globalImplicit) (hme : mg e = some (.ref C)) (K1 : ClK K C f) (hgr : sg.names.lookup ("repr" : Str) = some .globalImplicit) (hmr : mg "repr" = none)
      (hab : ∀ (x : Str) (L g : Addr) (cdg : Value), attributeBase (.Name n q1) f (envOfC x sg L g cdg) (eval (.Name n q1) (envOfC x sg L g cdg)) = eval (.Name n q1) (envOfC x sg L g cdg))
      (hst : ∀ (x : Str) (L g : Addr) (cdg : Value), starEach [Expr.Attribute (.Name n q1) f q6] (envOfC x sg L g cdg) = (false, eval (.Attribute (.Name n q1) f q6) (envOfC x sg L g cdg)) :: starEach [] (envOfC x sg L g cdg))
      (r : HdC K mg N sg n hs cs) (hde : (e == ("__debug__" : Str)) = false := by decide) :
      HdC K mg N sg n (.ExceptHandler (some (.Name e p4)) (some n) [.Return (some (.BinOp (.Constant (.str z) j q0) .Add (.Call (.Name "repr" q2) [.Attribute (.Name n q1) f q6] [] q3) q4)) q5] p7 :: hs) (⟨C, some f, z⟩ :: cs)
def clM (K : PySem.W.Frag) (i : Nat) (q : CD) : ClM := match q.f with
  | none => (.ref q.C, false, tSuC q.z)
  | some f => (.ref q.C, true, tSuR K i q.C f q.z)
theorem clM_none {K : PySem.W.Frag} {i : Nat} {C : Addr} {z : Str} : clM K i ⟨C, none, z⟩ = (.ref C, false, tSuC z) := rfl
theorem clM_some {K : PySem.W.Frag} {i : Nat} {C : Addr} {f z : Str} : clM K i ⟨C, some f, z⟩ = (.ref C, true, tSuR K i C f z) := rfl
/-- what the clauses wish, told without slots -/
theorem wM_of {K : PySem.W.Frag} {i : Nat} {D : Ends} {Q : VK} (hQ : ∀ v H, Q v H → D.rt v H) {cls : Value} {d : Option Addr} {σ : L2.St} {H : Hp} (hi : i < σ.length) : ∀ {cs : List CD}, eC K Q cs cls d H → wM K i D (cs.map (clM K i)) cls d σ H
  | [], h => h.elim
  | ⟨C, none, z⟩ :: cs, ⟨b, e, y, no⟩ => by
    rw [List.map_cons, clM_none]
    exact ⟨b, e, fun hb a _ => hQ _ _ (y hb), fun hb => wM_of hQ hi (no hb)⟩
  | ⟨C, some f, z⟩ :: cs, ⟨b, e, y, no⟩ => by
    rw [List.map_cons, clM_some]
    refine ⟨b, e, fun hb a _ => ?_, fun hb => wM_of hQ hi (no hb)⟩
    obtain ⟨e1, dd, fs, v, w, O, x, s, e2, e3, e4, e5, e6, e7, e8⟩ := y hb
    exact ⟨e1, dd, fs, v, w, O, x, s, e2, by rw [List.getElem?_set_self hi], e3, e4, e5, e6, e7, hQ _ _ e8⟩
section
variable {X : Cx} {Ng : List Str} {x a n q z : Str} {sg : Scope} {g : Addr} {cdg : Value} {i j k : Nat} {hd : ExceptHandler} {hds : List ExceptHandler} {cs : List CD} {p1 p2 p3 p5 p6 p8 : Pos}
theorem hdM_of {s : Shared} {H : Hp} (hs : (X.K.lookup sysModules).isSome = true) (hgu : X.A.guards = some []) (hr : Room (k + 2) X.A) (ei : Ng[i]? = some n) (en : Vis sg n) (h6 : (n == ("__debug__" : Str)) = false) (h7 : (n == ("__classdict__" : Str)) = false) :
    ∀ {hds : List ExceptHandler} {cs : List CD}, HdC X.K X.mg Ng sg n hds cs → HdMx (cxOf C8.CX0 X.prog X.w X.K X.mg X.base Ng x sg g cdg X.A X.stack s H C8.E0).nox n hds (cs.map (clM X.K i)) := by
  intro hds cs h
  induction h with
  | nil => exact .nil
  | @plain e z C j p4 p5 p6 p7 hs cs hge hme r hde ih =>
    rw [List.map_cons, clM_none]
    refine .plain ⟨hge, hde, .inl hme⟩ (fun a oe cls d pn hz hf => ?_) ih
    exact pss_one (ps_ret pe_str)
  | @named e z f C j p4 p7 q0 q1 q2 q3 q4 q5 q6 hs cs hge hme K1 hgr hmr hab hst r hde ih =>
    rw [List.map_cons, clM_some]
    refine .named ⟨hge, hde, .inl hme⟩ (fun a oe cls d pn hz hf => ?_) ih
    exact suR_ok (X := (cxOf C8.CX0 X.prog X.w X.K X.mg X.base Ng x sg g cdg X.A X.stack s H C8.E0).nox) (by assumption) hgu (hr.deeper _).units K1.xf K1.no hz hf hgr hmr ei en h6 h7 (hab _ _ _ _) (hst _ _ _ _)
theorem toldX_gives (hs : (X.K.lookup sysModules).isSome = true) (hgu : X.A.guards = some []) (hr : Room (k + 2) X.A) (hh : HdC X.K X.mg Ng sg n (hd :: hds) cs) (nd : Ng.Nodup) (ei : Ng[i]? = some n) (en : sg.names.lookup n = some .local)
    (el : ∀ L, (envOfC x sg L g cdg).kindOf n = some .local) (h0 : ∀ f : Addr, (L2.start Ng [V.ref f])[0]? = some (some (V.ref f)))
    (hsw : ∀ L, swapsWith (.Call (.Name a p1) [] [] p2) none p3.line (envOfC x sg L g cdg) = pure false)
    (h6 : (n == ("__debug__" : Str)) = false) (h7 : (n == ("__classdict__" : Str)) = false) :
    GivesTo X Ng x sg g cdg [.Try [.Expr (.Call (.Name a p1) [] [] p2) p3] (hd :: hds) [] [] p8, .Return (some (.Constant (.str z) j p5)) p6] a q (TToldX X.K cs (some z)) := by
  intro f' c' s H Q tl act hc h
  have ty := ps_tryMx (X := (cxOf C8.CX0 X.prog X.w X.K X.mg X.base Ng x sg g cdg X.A X.stack s H C8.E0).nox) (i := i) (n := n) (pos := p8) (body := [.Expr (.Call (.Name a p1) [] [] p2) p3])
    (tb := fun W D σ H => ∃ Ech : XK, (∀ cls d (σ' : L2.St) H', σ'.length = Ng.length → Ech cls d H' → W cls d σ' H') ∧ σ[0]? = some (some (.ref f')) ∧ H c' = some (CodeO c' q) ∧ tl Ech H (fun _ H' => D.nx σ H'))
    rfl rfl nd ei (el _) (fun W pn xe tk _ => ?_) (hdM_of (s := s) (H := H) hs hgu hr ei (.inl en) h6 h7 hh)
  · refine ⟨_, pss_cons ty (pss_one (ps_ret (pos := p6) (pe_str (pos := p5) (j := j) (x := z)))), ?_⟩
    refine ⟨_, fun cls d σ' H' hl z => ?_, h0 f', hc, h⟩
    have hi : i < σ'.length := by
      rw [hl]
      exact lt_of_get ei
    exact wM_of (Q := Q) (fun _ _ y => y) hi z
  · refine ⟨fun pins s' σ H' D I ⟨Ech, hW, h1, h2, h3⟩ => ?_⟩
    have hp := act (fun cls d σ H => σ.length = Ng.length → W cls d σ H) pn xe Ech p1 p2 (takes_len tk) (fun cls d σ' H' z hl => hW cls d σ' H' hl z)
    exact (pss_one (ps_expr (pos := p3) hp (hsw _))).run pins s' σ H' D I ⟨h1, h2, h3⟩
end
/-! ### the meaning -/
/-- the word of an error -/
def hitX : List (Nat × Option Str × Str) → Nat → List (Str × D) → Option Str
  | [], _, _ => none
  | (c, none, z) :: r, k, fs => if k = c then some z else hitX r k fs
  | (c, some f, z) :: r, k, fs => if k = c then (match fs with
    | [(g, d)] => if g = f then repTxt z d else none
    | _ => none) else hitX r k fs
def mToldX (L : List Nat) (cs : List (Nat × Option Str × Str)) (last : Option Str) (m : ME) : ME := fun ρ => match m ρ with
  | .ok x ρ1 => (match last with
    | none => .ok x ρ1
    | some z => .ok (.str z, false) ρ1)
  | .exc (.own k fs) ρ1 => if k ∈ L then (match hitX cs k fs with
    | some s => .ok (.str s, false) ρ1
    | none => .stuck) else .stuck
  | _ => .stuck
def cdOf (w : Wd) (q : Nat × Option Str × Str) : CD := ⟨w.cl q.1, q.2.1, q.2.2⟩
theorem hit_eC {w : Wd} {L : List Nat} (hm : ∀ a ∈ L, ∀ b ∈ L, PySem.W.exmOne w.K (.ref (w.cl a)) (.ref (w.cl b)) = some (a == b)) {O : Av} {H : Hp} {Q : VK} {k : Nat} {fs : List (Str × D)} {cls : Value} {d : Option Addr} (hk : k ∈ L) (xa : XcAt w O H cls d (.own k fs)) :
    ∀ {cs : List (Nat × Option Str × Str)} {s : Str}, (∀ q ∈ cs, q.1 ∈ L) → hitX cs k fs = some s → Q (.str s) H → eC w.K Q (cs.map (cdOf w)) cls d H
  | [], s, _, e, _ => by cases e
  | (c, o, z) :: cs, s, hc, e, hq => by
    have ecl : cls = .ref (w.cl k) := by
      cases fs with
      | nil => exact xa.1
      | cons _ _ => exact xa.1
    have em := hm k hk c (hc _ List.mem_cons_self)
    rw [List.map_cons]
    refine ⟨k == c, by rw [ecl]; exact em, fun hb => ?_, fun hb => ?_⟩
    · have hkc : k = c := by simpa using hb
      subst hkc
      cases o with
      | none =>
        simp only [hitX, if_true] at e
        cases e
        exact hq
      | some f =>
        simp only [hitX, if_true] at e
        split at e
        · rename_i g dd
          split at e
          · rename_i hgf
            subst hgf
            obtain ⟨_, a, vs, ed, na, hxa, rl⟩ := xa
            simp only [List.map_cons, List.map_nil, RepL] at rl
            obtain ⟨vv, _, rfl, rr, rfl⟩ := rl
            exact ⟨ecl, a, _, vv, w, O, dd, s, ed, hxa, by simp [List.lookup], rfl, rr, e, hq⟩
          · cases e
        · cases e
    · have hkc : k ≠ c := by simpa using hb
      refine hit_eC hm hk xa (fun q h => hc q (List.mem_cons_of_mem _ h)) ?_ hq
      cases o with
      | none => simpa only [hitX, if_neg hkc] using e
      | some f => simpa only [hitX, if_neg hkc] using e
theorem sim_toldX {w : Wd} {W : WX} {L : List Nat} {cs : List (Nat × Option Str × Str)} {last : Option Str} {q : Str} {P : Addr} {m : ME} (hm : ∀ a ∈ L, ∀ b ∈ L, PySem.W.exmOne w.K (.ref (w.cl a)) (.ref (w.cl b)) = some (a == b)) (hc : ∀ q ∈ cs, q.1 ∈ L) (hT : (P, q) ∈ w.T) (hu : ∀ p ∈ w.T, p.1 = P → p.2 = q) :
    Sim w W (tLamP P q (TToldX w.K (cs.map (cdOf w)) last) fun E => teOf w (WF E) m) (mToldX L cs last m) := fun F O ρ σ H Q hw R hh => by
  subst hw
  obtain ⟨ps, t1, t2, t3⟩ := (R.tab _ hT).2
  have tO := R.tabO
  refine ⟨ps, t1, ⟨t2, fun pos cv e => (t3 pos cv e).imp fun c z => ⟨z.1, z.2.2⟩⟩, fun H1 ps1 k1 k2 k3 k4 => ?_⟩
  have dm : ∀ b, H b ≠ none → H1 b ≠ none := fun b z => by
    cases e : H b with
    | none => exact absurd e z
    | some o =>
      by_cases hb : b = P
      · rw [hb, k2]; simp
      · rw [k1 b o hb e]; simp
  have st : Step O H O H1 := ⟨fun _ z => .inl z, fun b o n e => k1 b o (fun z => n (z ▸ (tO _ hT).1)) e, dm⟩
  have R1 : Rel F O ρ σ H1 := by
    refine R.stepT st (fun _ z => z) (fun b z => dm b (R.dom b z)) (fun b o n e => k1 b o (fun z => n _ hT z.symm) e) fun p hp => ?_
    by_cases hb : p.1 = P
    · rw [hu p hp hb, hb]
      refine ⟨ps1, k2, k3, fun pos cv e => ?_⟩
      obtain ⟨c0, e1, e2, e3⟩ := k4 pos cv e
      refine ⟨c0, e1, ?_, e2⟩
      rcases e3 with e3 | e3
      · obtain ⟨c9, z1, z2, _⟩ := t3 pos cv e3
        rw [e1] at z1
        cases z1
        exact z2
      · exact R.fresh e3
    · have tz := (R.tab p hp).2
      obtain ⟨qs, y⟩ := tz.some
      exact tz.step st (by rw [y]; exact k1 _ _ hb y)
  show teOf F.w _ m σ H1 _
  refine ⟨F, O, ρ, rfl, R1, ?_⟩
  unfold mToldX at hh
  cases q0 : m ρ with
  | stuck => rw [q0] at hh; exact hh.elim
  | ok x ρ1 =>
    rw [q0] at hh
    cases last with
    | none => exact fun O' H' b s' R' ra => hh O' H' b (st.trans s') R' (VlAt.later st ra)
    | some z => exact fun O' H' b s' R' ra => hh O' H' (.str z) (st.trans s') R' (by show Rep F.w O' H' (.str z) (.str z); simp only [Rep])
  | exc xc ρ1 =>
    rw [q0] at hh
    cases xc with
    | ty nn => exact hh.elim
    | own k fs =>
      have h2 : Hold F W O σ H (RV F σ H) Q (if k ∈ L then (match hitX cs k fs with
        | some s => .ok (.str s, false) ρ1
        | none => .stuck) else .stuck) := hh
      clear hh q0
      by_cases hk : k ∈ L
      · rw [if_pos hk] at h2
        cases e : hitX cs k fs with
        | none => rw [e] at h2; exact h2.elim
        | some s =>
          rw [e] at h2
          intro O' H' cls dd s' R' xa
          exact hit_eC hm hk xa hc e (h2 O' H' (.str s) (st.trans s') R' (by show Rep F.w O' H' (.str s) (.str s); simp only [Rep]))
      · rw [if_neg hk] at h2
        exact h2.elim
section
variable {w : Wd} {W : WX} {X : Cx} {x a n z : Str} {g cc P : Addr} {i j k : Nat} {L : List Nat} {cs : List (Nat × Option Str × Str)} {fd : FuncData} {st : Stmt} {Ng : List Str} {prm : Arguments} {ex : Expr} {sc : Scope} {m : ME} {p lp pos : Pos} {p1 p2 p3 p5 p6 p8 : Pos} {hd : ExceptHandler} {hds : List ExceptHandler}
/-- f(lambda: e), f: try: a() / except .. / return z -/
theorem pm_toldX (hK : w.K = X.K) (F : Fun X.K x x st g fd) (mgx : X.mg x = some (.ref g)) (gl : Gl X x) (bd : Binds X.K fd [a] []) (hst : defBody st = [.Try [.Expr (.Call (.Name a p1) [] [] p2) p3] (hd :: hds) [] [] p8, .Return (some (.Constant (.str z) j p5)) p6])
    (Sg : FnScope Ng [a] (defScope st)) (n0 : Ng[0]? = some a) (va : Vis (defScope st) a) (hs : (w.K.lookup sysModules).isSome = true) (hgu : X.A.guards = some []) (hh : HdC w.K X.mg Ng (defScope st) n (hd :: hds) (cs.map (cdOf w)))
    (hm : ∀ a ∈ L, ∀ b ∈ L, PySem.W.exmOne w.K (.ref (w.cl a)) (.ref (w.cl b)) = some (a == b)) (hc : ∀ q ∈ cs, q.1 ∈ L) (ei : Ng[i]? = some n) (en : (defScope st).names.lookup n = some .local)
    (el : ∀ L cdg, (envOfC x (defScope st) L g cdg).kindOf n = some .local) (hsw : ∀ L cdg, swapsWith (.Call (.Name a p1) [] [] p2) none p3.line (envOfC x (defScope st) L g cdg) = pure false)
    (h0 : ∀ f : Addr, (L2.start Ng [V.ref f])[0]? = some (some (V.ref f)))
    (B : TabB X.base X.mg cc P) (code : X.env.code = .ref cc) (hT : (P, X.env.qual ++ ("<lambda>" : Str)) ∈ w.T) (hu : ∀ p ∈ w.T, p.1 = P → p.2 = X.env.qual ++ ("<lambda>" : Str)) (rm : Room (k + 2) X.A) (Ls : LamS X.env.scope sc)
    (nd : defaultsOf prm X.env = ([], [])) (lb : ∀ (q : Str) (cl : List (Str × Addr)) (pm cv ctv : Value), bindArgs (PySem.W.kla_fn "<lambda>" q prm ex sc cl pm cv ctv) ⟨[], []⟩ = pure [])
    (inner : ∀ (A : Around) (outer : List Env) (s : Shared) (H : Hp) (E : XK) (f c' : Addr), Room k (A.deeper (lamEnv X sc s.heap.objs.size f c')) → Takes (lamCx X A outer s H E sc f c') (WF E) → PM (lamCx X A outer s H E sc f c') w (WF E) ex m)
    (d1 : (x == ("__debug__" : Str)) = false := by decide) (d2 : (a == ("__debug__" : Str)) = false := by decide) (d3 : (a == ("__classdict__" : Str)) = false := by decide) (d6 : (n == ("__debug__" : Str)) = false := by decide) (d7 : (n == ("__classdict__" : Str)) = false := by decide) :
    PM X w W (.Call (.Name x p) [.Lambda prm ex sc lp] [] pos) (mToldX L cs (some z) m) := by
  obtain ⟨oc, od, kV, doc, pm, an, cdv, ct, osl, rfl, lk, hcd⟩ := F.ex
  refine ⟨_, pe_lamP (TT := TToldX w.K (cs.map (cdOf w)) (some z)) (t := fun E => teOf w (WF E) m) (bg := defBody st) (Ng := Ng) gl mgx F.kp lk hcd bd Sg n0 va ?_ B code rm Ls nd lb (fun A outer s H E f c' hr => (inner A outer s H E f c' hr (takes_of rfl rfl rfl rfl)).pe) d1 d2 d3, sim_toldX hm hc hT hu⟩
  rw [hst, hK]
  exact toldX_gives (k := k) (hK ▸ hs) hgu rm (hK ▸ hh) Sg.nd ei en (fun L => el L _) h0 (fun L => hsw L _) d6 d7
end
end PM

namespace PM.G
open PySem PySem.Spec L2 PM
def ix_own_accepted : Nat → Option Nat
  | 1 => some 0
  | _ => none
def ix_own_gap : Nat → Option Nat
  | 1 => some 1
  | _ => none
def ix_own_leaves : Nat → Option Nat
  | 0 => some 0
  | _ => none
def ix_own_many : Nat → Option Nat
  | 0 => some 1
  | _ => none
def ix_own_parts : Nat → Option Nat
  | 0 => some 2
  | _ => none
def ix_own_rows : Nat → Option Nat
  | 1 => some 2
  | _ => none
def ix_own_sides : Nat → Option Nat
  | 1 => some 3
  | _ => none
def ix_own_size : Nat → Option Nat
  | 0 => some 3
  | _ => none
def ix_own_text : Nat → Option Nat
  | 0 => some 4
  | _ => none
def ix_own_tie : Nat → Option Nat
  | 1 => some 4
  | _ => none
def ix_word : Nat → Option Nat
  | 0 => some 5
  | _ => none
def ans_Building : Ty → Option Bool
  | .b "NoneType" => some false
  | .b "bool" => some false
  | .b "int" => some false
  | .b "str" => some false
  | .b "tuple" => some false
  | .b "list" => some false
  | .b "dict" => some false
  | .o 0 => some true
  | .o 1 => some false
  | _ => none
def ans_Table : Ty → Option Bool
  | .b "NoneType" => some false
  | .b "bool" => some false
  | .b "int" => some false
  | .b "str" => some false
  | .b "tuple" => some false
  | .b "list" => some false
  | .b "dict" => some false
  | .o 0 => some false
  | .o 1 => some true
  | _ => none
def ans_bool : Ty → Option Bool
  | .b "NoneType" => some false
  | .b "bool" => some true
  | .b "int" => some false
  | .b "str" => some false
  | .b "tuple" => some false
  | .b "list" => some false
  | .b "dict" => some false
  | .o 0 => some false
  | .o 1 => some false
  | _ => none
def ans_int : Ty → Option Bool
  | .b "NoneType" => some false
  | .b "bool" => some true
  | .b "int" => some true
  | .b "str" => some false
  | .b "tuple" => some false
  | .b "list" => some false
  | .b "dict" => some false
  | .o 0 => some false
  | .o 1 => some false
  | _ => none
def ans_tuple : Ty → Option Bool
  | .b "NoneType" => some false
  | .b "bool" => some false
  | .b "int" => some false
  | .b "str" => some false
  | .b "tuple" => some true
  | .b "list" => some false
  | .b "dict" => some false
  | .o 0 => some false
  | .o 1 => some false
  | _ => none
def tab_LOST (z : Str) : Option D := if z = "row" then some (.int 1) else if z = "side" then some (.int 2) else none
def tab_SIGNS (z : Str) : Option D := if z = "row" then some (.str " + ") else if z = "side" then some (.str " | ") else none
abbrev excL : List Nat := [3, 4, 5]
abbrev xnL : List (Nat × PySem.Str) := [(3, "InvalidTable"), (4, "InvalidBuilding"), (5, "InvalidOperation")]
abbrev tc_l_met : List (Nat × Option PySem.Str × PySem.Str) := [(3, none, "table"), (4, none, "building"), (5, none, "operation")]
def m_is_whole : MS :=
    (mRet (mAndV (mOp1 (isD 2 ans_int) (mVar 0)) (mNotV (mOp1 (isD 2 ans_bool) (mVar 0)))))
def fn_is_whole : Fn := noX (fnSem 1 1 m_is_whole)
def m_is_integer : MS :=
    (mRet (mAndV (mCallV fn_is_whole (mCons (mVar 0) mNil)) (mChain ltI ltI (mOp1 negD (mC (.int 1000000000000000000000000000000000000000000000000000000000000))) (mVar 0) (mC (.int 1000000000000000000000000000000000000000000000000000000000000)))))
def fn_is_integer : Fn := noX (fnSem 1 1 m_is_integer)
def m_is_state : MS :=
    (mRet (mAndV (mCallV fn_is_integer (mCons (mVar 1) mNil)) (mChain leI ltI (mC (.int 0)) (mVar 1) (mVar 0))))
def fn_is_state : Fn := noX (fnSem 2 2 m_is_state)
def c_is_square_0 : ME :=
    (mLc (mIt itT (mVar 2)) [3] (gN 3) mYes (mCallV fn_is_state (mCons (mVar 0) (mCons (mVar 3) mNil))))
def p_is_square_1 : MS :=
    (mFor (mIt itT (mVar 1)) (gN 2) (mIfS (mOr (mNot (mTest (mOp1 (isD 2 ans_tuple) (mVar 2)))) (mOr (mTest (mOp2 neD (mCall (one1 lenD) (mCons (mVar 2) mNil)) (mVar 0))) (mNot (mTest (mCall (one1 (allD false)) (mCons c_is_square_0 mNil)))))) (mRet (mC (.bl false))) mNext))
def m_is_square : MS :=
    (mSeq (mIfS (mOr (mNot (mTest (mOp1 (isD 2 ans_tuple) (mVar 1)))) (mTest (mOp2 neD (mCall (one1 lenD) (mCons (mVar 1) mNil)) (mVar 0)))) (mRet (mC (.bl false))) mNext)
    (mSeq p_is_square_1
    (mRet (mC (.bl true)))))
def fn_is_square : Fn := noX (fnSem 4 2 m_is_square)
def c_are_states_0 : ME :=
    (mLc (mIt itT (mVar 1)) [4] (gN 4) mYes (mCallV fn_is_state (mCons (mVar 0) (mCons (mVar 4) mNil))))
def c_are_states_1 : ME :=
    (mLc (mItA itZT (mCons (mVar 1) (mCons (mSl (mVar 1) (mPart (mC (.int 1))) mNo) mNil))) [2, 3] (gT [(gN 2), (gN 3)]) mYes (mOp2 ltI (mVar 2) (mVar 3)))
def m_are_states : MS :=
    (mSeq (mIfS (mOr (mNot (mTest (mOp1 (isD 2 ans_tuple) (mVar 1)))) (mNot (mTest (mCall (one1 (allD false)) (mCons c_are_states_0 mNil))))) (mRet (mC (.bl false))) mNext)
    (mRet (mCall (one1 (allD false)) (mCons c_are_states_1 mNil))))
def fn_are_states : Fn := noX (fnSem 5 2 m_are_states)
def m_are_right : MS :=
    (mSeq (mIfS (mOr (mNot (mTest (mOp1 (isD 2 ans_tuple) (mVar 2)))) (mNot (mTest (mChain leI leI (mC (.int 1)) (mCall (one1 lenD) (mCons (mVar 2) mNil)) (mC (.int 400)))))) (mRet (mC (.bl false))) mNext)
    (mSeq (mAsg 5 (mCall (one1 lenD) (mCons (mVar 2) mNil)))
    (mSeq (mIfS (mOr (mNot (mTest (mCallV fn_is_state (mCons (mVar 5) (mCons (mVar 0) mNil))))) (mNot (mTest (mCallV fn_is_state (mCons (mVar 5) (mCons (mVar 1) mNil)))))) (mRet (mC (.bl false))) mNext)
    (mRet (mAndV (mCallV fn_is_square (mCons (mVar 5) (mCons (mVar 2) mNil))) (mAndV (mCallV fn_is_square (mCons (mVar 5) (mCons (mVar 3) mNil))) (mCallV fn_are_states (mCons (mVar 5) (mCons (mVar 4) mNil)))))))))
def fn_are_right : Fn := noX (fnSem 6 5 m_are_right)
def m_Table_uinitu : MS :=
    (mSeq (mIfS (mNot (mTest (mCallV fn_are_right (mCons (mVar 1) (mCons (mVar 2) (mCons (mVar 3) (mCons (mVar 4) (mCons (mVar 5) mNil)))))))) mDead mNext)
    (mSeq (mSetF 0 1 4 (mVar 1))
    (mSeq (mSetF 0 1 1 (mVar 2))
    (mSeq (mSetF 0 1 2 (mVar 3))
    (mSeq (mSetF 0 1 3 (mVar 4))
    (mSetF 0 1 0 (mVar 5)))))))
def fn_Table_uinitu : Fn := noX (fnSem 6 6 m_Table_uinitu)
def m_l_dice : MS :=
    (mSeq (mAsg 2 (mIf (mTest (mOp2 ltI (mVar 1) (mCall (one1 lenD) (mCons (mVar 0) mNil)))) (mCall (one1 intD) (mCons (mOp2 ixD (mVar 0) (mVar 1)) mNil)) (mOp2 addD (mOp2 mulD (mC (.int 61)) (mVar 1)) (mC (.int 17)))))
    (mSeq (mAsg 3 (mOp2 modD (mCall (two1 maxD) (mCons (mC (.int 0)) (mCons (mOp2 subD (mCall (one1 absD) (mCons (mVar 2) mNil)) (mOp2 powD (mC (.int 10)) (mC (.int 16)))) mNil))) (mOp2 mulD (mOp2 powD (mC (.int 10)) (mC (.int 60))) (mOp2 powD (mC (.int 10)) (mC (.int 60))))))
    (mRet (mLst (mCons (mVar 3) (mCons (mOp2 addD (mOp2 addD (mOp2 addD (mOp2 mulD (mOp2 modD (mCall (one1 absD) (mCons (mVar 2) mNil)) (mC (.int 1152921504606846869))) (mC (.int 43))) (mOp2 mulD (mC (.int 811)) (mVar 1))) (mOp2 mulD (mC (.int 29)) (mCall (one1 intD) (mCons (mOp2 ltI (mVar 2) (mC (.int 0))) mNil)))) (mC (.int 5))) (mCons (mC (.int 0)) mNil)))))))
def fn_l_dice : Fn := noX (fnSem 4 2 m_l_dice)
def m_l_roll : MS :=
    (mSeq (mIfS (mTest (mOp2 gtI (mItemO 0 (mC (.int 0))) (mC (.int 0)))) (mSeq (mAsg 4 (mOp2 modD (mCall (one1 intD) (mCons (mItemO 0 (mC (.int 0))) mNil)) (mVar 1)))
    (mSeq (mSetItem 0 (mC (.int 0)) (mOp2 divD (mItemO 0 (mC (.int 0))) (mVar 1)))
    (mRet (mVar 4)))) mNext)
    (mSeq (mSetItem 0 (mC (.int 2)) (mOp2 addD (mItemO 0 (mC (.int 2))) (mC (.int 1))))
    (mSeq (mAsg 2 (mOp2 modD (mCall (one1 intD) (mCons (mOp2 addD (mItemO 0 (mC (.int 1))) (mOp2 mulD (mC (.int 49979687)) (mItemO 0 (mC (.int 2))))) mNil)) (mC (.int 2305843009213693669))))
    (mSeq (mAsg 3 (mOp2 addD (mOp2 mulD (mOp2 modD (mCall (one1 intD) (mCons (mOp2 addD (mOp2 mulD (mVar 2) (mVar 2)) (mOp2 mulD (mC (.int 89)) (mItemO 0 (mC (.int 2))))) mNil)) (mC (.int 2305843009213693907))) (mC (.int 7368791))) (mVar 2)))
    (mRet (mOp2 modD (mCall (one1 intD) (mCons (mOp2 divD (mVar 3) (mC (.int 65536))) mNil)) (mVar 1)))))))
def fn_l_roll : Fn := noX (fnSem 5 2 m_l_roll)
def m_l_pick : MS :=
    (mRet (mOp2 ixD (mVar 1) (mCallD fn_l_roll 0 (mCons (mCall (one1 lenD) (mCons (mVar 1) mNil)) mNil))))
def fn_l_pick : Fn := noX (fnSem 2 2 m_l_pick)
def m_l_spoilt : MS :=
    (mSeq (mAsg 1 (mLst (mCons (mC (.int 1)) (mCons (mC (.int 0)) (mCons (mTup (mCons (mTup (mCons (mC (.int 0)) (mCons (mC (.int 1)) mNil))) (mCons (mTup (mCons (mC (.int 1)) (mCons (mC (.int 1)) mNil))) mNil))) (mCons (mTup (mCons (mTup (mCons (mC (.int 0)) (mCons (mC (.int 0)) mNil))) (mCons (mTup (mCons (mC (.int 0)) (mCons (mC (.int 1)) mNil))) mNil))) (mCons (mTup (mCons (mC (.int 1)) mNil)) mNil)))))))
    (mSeq (mAsg 2 (mCallD fn_l_roll 0 (mCons (mC (.int 7)) mNil)))
    (mSeq (mIfS (mTest (mOp2 gtI (mVar 2) (mC (.int 4)))) (mRet (mTup (mCons (mVar 1) (mCons (mC (.bl true)) mNil)))) mNext)
    (mSeq (mIfS (mTest (mOp2 ltI (mVar 2) (mC (.int 2)))) (mAsgO 3 (mLst (mCons (mC .non) (mCons (mC (.bl true)) (mCons (mC (.int 2)) (mCons (mOp1 negD (mC (.int 1))) (mCons (mC (.str "0")) (mCons (mTup (mCons (mC (.int 0)) mNil)) (mCons (mOp2 powD (mC (.int 10)) (mC (.int 60))) (mCons (mLst mNil) mNil)))))))))) (mIfS (mTest (mOp2 ltI (mVar 2) (mC (.int 4)))) (mSeq (mAsgO 3 (mLst (mCons (mC .non) (mCons (mTup mNil) (mCons (mTup (mCons (mTup (mCons (mC (.int 0)) (mCons (mC (.int 1)) mNil))) mNil)) (mCons (mLst (mCons (mLst (mCons (mC (.int 0)) (mCons (mC (.int 1)) mNil))) (mCons (mLst (mCons (mC (.int 1)) (mCons (mC (.int 1)) mNil))) mNil))) (mCons (mTup (mCons (mTup (mCons (mC (.int 0)) (mCons (mC (.int 1)) mNil))) (mCons (mLst (mCons (mC (.int 1)) (mCons (mC (.int 1)) mNil))) mNil))) (mCons (mTup (mCons (mTup (mCons (mC (.int 0)) (mCons (mC (.int 1)) mNil))) (mCons (mTup (mCons (mC (.int 1)) (mCons (mC (.int 2)) mNil))) mNil))) (mCons (mTup (mCons (mTup (mCons (mC (.int 0)) (mCons (mC (.int 1)) mNil))) (mCons (mTup (mCons (mC (.int 1)) (mCons (mC (.bl true)) mNil))) mNil))) mNil)))))))))
    (mSeq (mAsgO 3 (mOp2 addD (mGive 3) (mLst (mCons (mTup (mCons (mTup (mCons (mC (.int 0)) (mCons (mC (.int 1)) mNil))) (mCons (mTup (mCons (mC (.int 1)) (mCons (mC (.int 1)) mNil))) (mCons (mTup (mCons (mC (.int 0)) (mCons (mC (.int 0)) mNil))) mNil)))) (mCons (mTup (mCons (mTup (mCons (mC (.int 0)) (mCons (mC (.int 1)) (mCons (mC (.int 0)) mNil)))) (mCons (mTup (mCons (mC (.int 1)) (mCons (mC (.int 1)) (mCons (mC (.int 0)) mNil)))) mNil))) (mCons (mC (.str "01")) (mCons mDct0 (mCons (mC (.int 0)) (mCons (mTup (mCons (mTup (mCons (mC (.int 0)) (mCons (mC (.int 1)) mNil))) (mCons (mTup (mCons (mC (.int 1)) (mCons (mOp1 negD (mC (.int 1))) mNil))) mNil))) mNil)))))))))
    (mExpr (mAppend 3 (mCons (mTup (mCons (mTup (mCons (mC (.int 0)) (mCons (mC (.int 1)) mNil))) (mCons (mTup (mCons (mC (.int 1)) (mCons (mC .non) mNil))) mNil))) mNil))))) (mAsgO 3 (mLst (mCons (mC .non) (mCons (mLst (mCons (mC (.int 1)) mNil)) (mCons (mTup (mCons (mC (.int 1)) (mCons (mC (.int 0)) mNil))) (mCons (mTup (mCons (mC (.int 0)) (mCons (mC (.int 0)) mNil))) (mCons (mTup (mCons (mC (.int 2)) mNil)) (mCons (mTup (mCons (mC (.bl true)) mNil)) (mCons (mTup (mCons (mOp1 negD (mC (.int 1))) mNil)) (mCons (mC (.str "1")) (mCons (mC (.int 1)) (mCons mDct0 (mCons (mTup (mCons (mC .non) mNil)) mNil)))))))))))))))
    (mRet (mTup (mCons (mOp2 addD (mOp2 addD (mSl (mVar 1) mNo (mPart (mVar 2))) (mLst (mCons (mCallD fn_l_pick 0 (mCons (mGive 3) mNil)) mNil))) (mSl (mVar 1) (mPart (mOp2 addD (mVar 2) (mC (.int 1)))) mNo)) (mCons (mC (.bl false)) mNil))))))))
def fn_l_spoilt : Fn := noX (fnSem 4 1 m_l_spoilt)
def m_x_Table_uinitu : MS :=
    (mSeq (mIfS (mNot (mTest (mCallV fn_are_right (mCons (mVar 1) (mCons (mVar 2) (mCons (mVar 3) (mCons (mVar 4) (mCons (mVar 5) mNil)))))))) (mRaise0 3) mNext)
    (mSeq (mSetF 0 1 4 (mVar 1))
    (mSeq (mSetF 0 1 1 (mVar 2))
    (mSeq (mSetF 0 1 2 (mVar 3))
    (mSeq (mSetF 0 1 3 (mVar 4))
    (mSetF 0 1 0 (mVar 5)))))))
def fn_x_Table_uinitu : Fn := (fnSem 6 6 m_x_Table_uinitu)
def m_l_parts_right : MS :=
    (mSeq (mAsgG (gT [(gN 3), (gN 4)]) (mCallD fn_l_spoilt 0 mNil))
    (mSeq (mAsg 1 (mToldX excL tc_l_met (some "") (mMakeX 1 fn_x_Table_uinitu (mCons (mOp2 ixD (mVar 3) (mC (.int 0))) (mCons (mOp2 ixD (mVar 3) (mC (.int 1))) (mCons (mOp2 ixD (mVar 3) (mC (.int 2))) (mCons (mOp2 ixD (mVar 3) (mC (.int 3))) (mCons (mOp2 ixD (mVar 3) (mC (.int 4))) mNil))))))))
    (mSeq (mAsg 2 (mToldX excL tc_l_met (some "") (mMakeX 1 fn_x_Table_uinitu (mCons (mC (.int 0)) (mCons (mC (.int 0)) (mCons (mTup mNil) (mCons (mTup mNil) (mCons (mTup mNil) mNil))))))))
    (mRet (mOp2 eqD (mLst (mCons (mVar 1) (mCons (mVar 2) mNil))) (mLst (mCons (mIf (mTest (mVar 4)) (mC (.str "")) (mC (.str "table"))) (mCons (mC (.str "table")) mNil))))))))
def fn_l_parts_right : Fn := noX (fnSem 5 1 m_l_parts_right)
def m_Table_rows : MS :=
    (mRet (mOp1 (fldD ix_own_rows) (mVar 0)))
def fn_Table_rows : Fn := noX (fnSem 1 1 m_Table_rows)
def m_Building_uinitu : MS :=
    (mSeq (mSetF 0 0 5 (mVar 1))
    (mSeq (mSetF 0 0 2 (mVar 2))
    (mIfS (mTest (mOp2 eq0 (mVar 2) (mTup mNil))) (mSetFs 0 0 [4, 0, 3, 1] (mTup (mCons (mVar 1) (mCons (mTup (mCons (mVar 1) mNil)) (mCons (mC (.int 1)) (mCons (mC (.int 2)) mNil)))))) (mSeq (mAsgG (gT [(gN 3), (gN 4)]) (mVar 2))
    (mSeq (mSetF 0 0 4 (mJs [(mC (.str "(")), (mOp1 fmtD (mOp1 (fldD ix_own_text) (mVar 3))), (mOp1 fmtD (mOp1 (kdF tab_SIGNS) (mVar 1))), (mOp1 fmtD (mOp1 (fldD ix_own_text) (mVar 4))), (mC (.str ")"))] Str.empty))
    (mSeq (mSetF 0 0 0 (mTup (mStar (mOp1 (fldD ix_own_leaves) (mVar 3)) (mStar (mOp1 (fldD ix_own_leaves) (mVar 4)) mNil))))
    (mSeq (mSetF 0 0 3 (mOp2 addD (mOp1 (fldD ix_own_size) (mVar 3)) (mOp1 (fldD ix_own_size) (mVar 4))))
    (mSetF 0 0 1 (mOp2 subD (mOp2 addD (mOp1 (fldD ix_own_many) (mVar 3)) (mOp1 (fldD ix_own_many) (mVar 4))) (mOp1 (kdF tab_LOST) (mVar 1)))))))))))
def fn_Building_uinitu : Fn := noX (fnSem 5 3 m_Building_uinitu)
def m_Building_tie : MS :=
    (mRet (mMakeL 0 0 fn_Building_uinitu (mCons (mC (.str "tie")) (mCons (mTup mNil) mNil))))
def fn_Building_tie : Fn := noX (fnSem 1 1 m_Building_tie)
def m_x_require_building : MS :=
    (mIfS (mNot (mTest (mOp1 (isD 2 ans_Building) (mVar 0)))) (mRaise0 4) mNext)
def fn_x_require_building : Fn := (fnSem 1 1 m_x_require_building)
def m_Building_parts : MS :=
    (mRet (mOp1 (fldD ix_own_parts) (mVar 0)))
def fn_Building_parts : Fn := noX (fnSem 1 1 m_Building_parts)
def m_state_in (fn_state_in : Nat → Fn) (n : Nat) : MS :=
    (mSeq (mIfS (mTest (mOp2 eq0 (mOp1 (fun x => objN 0 fn_Building_parts [x]) (mVar 1)) (mTup mNil))) (mRet (mIf (mTest (mOp2 eqD (mOp1 (fldD ix_word) (mVar 1)) (mC (.str "tie")))) (mOp1 (fldD ix_own_tie) (mVar 0)) (mOp1 (fldD ix_own_gap) (mVar 0)))) mNext)
    (mSeq (mAsgG (gT [(gN 3), (gN 4)]) (mOp1 (fun x => objN 0 fn_Building_parts [x]) (mVar 1)))
    (mSeq (mAsg 2 (mIf (mTest (mOp2 eqD (mOp1 (fldD ix_word) (mVar 1)) (mC (.str "row")))) (mOp1 (fldD ix_own_rows) (mVar 0)) (mOp1 (fldD ix_own_sides) (mVar 0))))
    (mRet (mOp2 ixD (mOp2 ixD (mVar 2) (mCallV (fn_state_in n) (mCons (mVar 0) (mCons (mVar 3) mNil)))) (mCallV (fn_state_in n) (mCons (mVar 0) (mCons (mVar 4) mNil))))))))
def fn_state_in : Nat → Fn
  | 0 => fun _ _ => .stuck
  | n + 1 => noX (fnSem 5 2 (m_state_in (fun _ => fn_state_in n) n))
def m_x_Table_state_of : MS :=
    (mSeq (mExpr (mCallX fn_x_require_building (mCons (mVar 1) mNil)))
    (mRet (mCallV (fn_state_in 8) (mCons (mVar 0) (mCons (mVar 1) mNil)))))
def fn_x_Table_state_of : Fn := (fnSem 2 2 m_x_Table_state_of)
def m_x_Table_accepts : MS :=
    (mSeq (mExpr (mCallX fn_x_require_building (mCons (mVar 1) mNil)))
    (mRet (mOp2 (inA false) (mCallV (fn_state_in 8) (mCons (mVar 0) (mCons (mVar 1) mNil))) (mOp1 (fldD ix_own_accepted) (mVar 0)))))
def fn_x_Table_accepts : Fn := (fnSem 2 2 m_x_Table_accepts)
def m_table_by : MS :=
    (mSeq (mAsgG (gT [(gN 1), (gN 2), (gN 3), (gN 4), (gN 5)]) (mVar 0))
    (mRet (mMake 1 fn_Table_uinitu (mCons (mVar 1) (mCons (mVar 2) (mCons (mVar 3) (mCons (mVar 4) (mCons (mVar 5) mNil))))))))
def fn_table_by : Fn := noX (fnSem 6 1 m_table_by)
def c_renumbered_parts_0 : ME :=
    (mDc (mItA itEL (mCons (mVar 1) mNil)) [11, 12] (gT [(gN 11), (gN 12)]) mYes (mVar 12) (mVar 11))
def c_renumbered_parts_1 : ME :=
    (mLc (mIt itL (mVar 1)) [14] (gN 14) mYes (mOp2 getK (mVar 2) (mOp2 ixD (mOp2 ixD (mVar 8) (mVar 13)) (mVar 14))))
def c_renumbered_parts_2 : ME :=
    (mLc (mIt itL (mVar 1)) [13] (gN 13) mYes (mCall (one1 tupD) (mCons c_renumbered_parts_1 mNil)))
def c_renumbered_parts_3 : ME :=
    (mLc (mIt itL (mVar 1)) [14] (gN 14) mYes (mOp2 getK (mVar 2) (mOp2 ixD (mOp2 ixD (mVar 9) (mVar 13)) (mVar 14))))
def c_renumbered_parts_4 : ME :=
    (mLc (mIt itL (mVar 1)) [13] (gN 13) mYes (mCall (one1 tupD) (mCons c_renumbered_parts_3 mNil)))
def c_renumbered_parts_5 : ME :=
    (mLc (mIt itLT (mVar 10)) [12] (gN 12) (mTest (mOp2 (inK false) (mVar 12) (mVar 2))) (mOp2 getK (mVar 2) (mVar 12)))
def m_renumbered_parts : MS :=
    (mSeq (mAsgG (gT [(gN 6), (gN 7), (gN 8), (gN 9), (gN 10)]) (mVar 0))
    (mSeq (mAsg 2 c_renumbered_parts_0)
    (mSeq (mAsg 3 (mCall (one1 tupD) (mCons c_renumbered_parts_2 mNil)))
    (mSeq (mAsg 4 (mCall (one1 tupD) (mCons c_renumbered_parts_4 mNil)))
    (mSeq (mAsg 5 (mCall (one1 tupD) (mCons (mCall (one1 sortID) (mCons c_renumbered_parts_5 mNil)) mNil)))
    (mRet (mTup (mCons (mOp2 getK (mVar 2) (mVar 6)) (mCons (mOp2 getK (mVar 2) (mVar 7)) (mCons (mVar 3) (mCons (mVar 4) (mCons (mVar 5) mNil))))))))))))
def fn_renumbered_parts : Fn := noX (fnSem 15 2 m_renumbered_parts)
def m_five_of : MS :=
    (mRet (mTup (mCons (mOp1 (fldD ix_own_tie) (mVar 0)) (mCons (mOp1 (fldD ix_own_gap) (mVar 0)) (mCons (mOp1 (fldD ix_own_rows) (mVar 0)) (mCons (mOp1 (fldD ix_own_sides) (mVar 0)) (mCons (mOp1 (fldD ix_own_accepted) (mVar 0)) mNil)))))))
def fn_five_of : Fn := noX (fnSem 1 1 m_five_of)
def c_x_Table_renumbered_0 : ME :=
    (mLc (mIt itT (mVar 1)) [3] (gN 3) mYes (mCallV fn_is_state (mCons (mVar 2) (mCons (mVar 3) mNil))))
def m_x_Table_renumbered : MS :=
    (mSeq (mAsg 2 (mCall (one1 lenD) (mCons (mOp1 (fldD ix_own_rows) (mVar 0)) mNil)))
    (mSeq (mIfS (mOr (mNot (mTest (mOp1 (isD 2 ans_tuple) (mVar 1)))) (mOr (mTest (mOp2 neD (mCall (one1 lenD) (mCons (mVar 1) mNil)) (mVar 2))) (mNot (mTest (mCall (one1 (allD false)) (mCons c_x_Table_renumbered_0 mNil)))))) (mRaise0 5) mNext)
    (mSeq (mIfS (mTest (mOp2 neD (mCall (one1 lenSetI) (mCons (mVar 1) mNil)) (mVar 2))) (mRaise0 5) mNext)
    (mRet (mCallV fn_table_by (mCons (mCallV fn_renumbered_parts (mCons (mCallV fn_five_of (mCons (mVar 0) mNil)) (mCons (mCall (one1 lstD) (mCons (mVar 1) mNil)) mNil))) mNil))))))
def fn_x_Table_renumbered : Fn := (fnSem 4 2 m_x_Table_renumbered)
def m_x_Table_with_accepted : MS :=
    (mSeq (mIfS (mNot (mTest (mCallV fn_are_states (mCons (mCall (one1 lenD) (mCons (mOp1 (fldD ix_own_rows) (mVar 0)) mNil)) (mCons (mVar 1) mNil))))) (mRaise0 5) mNext)
    (mRet (mMake 1 fn_Table_uinitu (mCons (mOp1 (fldD ix_own_tie) (mVar 0)) (mCons (mOp1 (fldD ix_own_gap) (mVar 0)) (mCons (mOp1 (fldD ix_own_rows) (mVar 0)) (mCons (mOp1 (fldD ix_own_sides) (mVar 0)) (mCons (mVar 1) mNil))))))))
def fn_x_Table_with_accepted : Fn := (fnSem 2 2 m_x_Table_with_accepted)
def m_x_require_table : MS :=
    (mIfS (mNot (mTest (mOp1 (isD 2 ans_Table) (mVar 0)))) (mRaise0 3) mNext)
def fn_x_require_table : Fn := (fnSem 1 1 m_x_require_table)
def m_results_of : MS :=
    (mRet (mTup (mCons (mOp2 ixD (mOp2 ixD (mVar 0) (mVar 2)) (mVar 3)) (mCons (mOp2 ixD (mOp2 ixD (mVar 0) (mVar 3)) (mVar 2)) (mCons (mOp2 ixD (mOp2 ixD (mVar 1) (mVar 2)) (mVar 3)) (mCons (mOp2 ixD (mOp2 ixD (mVar 1) (mVar 3)) (mVar 2)) mNil))))))
def fn_results_of : Fn := noX (fnSem 4 4 m_results_of)
def p_met_pairs_0 : MS :=
    (mFor (mItA itZT (mCons (mCallV fn_results_of (mCons (mOp2 ixD (mVar 0) (mC (.int 2))) (mCons (mOp2 ixD (mVar 0) (mC (.int 3))) (mCons (mVar 7) (mCons (mVar 5) mNil))))) (mCons (mCallV fn_results_of (mCons (mOp2 ixD (mVar 1) (mC (.int 2))) (mCons (mOp2 ixD (mVar 1) (mC (.int 3))) (mCons (mVar 8) (mCons (mVar 6) mNil))))) mNil))) (gN 9) (mIfS (mTest (mOp2O (inK true) (mVar 9) 3)) (mSeq (mSetKeyN 3 (mVar 9) (mC (.bl true)))
    (mExpr (mAppend 2 (mCons (mVar 9) mNil)))) mNext))
def p_met_pairs_1 : MS :=
    (mFor (mIt itL (mSlO 2 mNo (mPart (mOp2 addD (mVar 4) (mC (.int 1)))))) (gT [(gN 7), (gN 8)]) p_met_pairs_0)
def m_met_pairs : MS :=
    (mSeq (mAsgO 2 (mLst (mCons (mTup (mCons (mOp2 ixD (mVar 0) (mC (.int 1))) (mCons (mOp2 ixD (mVar 1) (mC (.int 1))) mNil))) mNil)))
    (mSeq (mAsgN 3 (mDispN (mTup (mCons (mOp2 ixD (mVar 0) (mC (.int 1))) (mCons (mOp2 ixD (mVar 1) (mC (.int 1))) mNil))) (mC (.bl true))))
    (mSeq (mIfS (mTest (mOp2O (inK true) (mTup (mCons (mOp2 ixD (mVar 0) (mC (.int 0))) (mCons (mOp2 ixD (mVar 1) (mC (.int 0))) mNil))) 3)) (mSeq (mExpr (mAppend 2 (mCons (mTup (mCons (mOp2 ixD (mVar 0) (mC (.int 0))) (mCons (mOp2 ixD (mVar 1) (mC (.int 0))) mNil))) mNil)))
    (mSetKeyN 3 (mTup (mCons (mOp2 ixD (mVar 0) (mC (.int 0))) (mCons (mOp2 ixD (mVar 1) (mC (.int 0))) mNil))) (mC (.bl true)))) mNext)
    (mSeq (mAsg 4 (mC (.int 0)))
    (mSeq (mWhile (mTest (mOp2 ltI (mVar 4) (mLenO 2))) (mSeq (mAsgG (gT [(gN 5), (gN 6)]) (mItemO 2 (mVar 4)))
    (mSeq p_met_pairs_1
    (mAug 4 (mC (.int 1))))) 1000)
    (mRetO 2))))))
def fn_met_pairs : Fn := noX (fnSem 10 2 m_met_pairs)
def m_is_kept : MS :=
    (mSeq (mIfS (mTest (mOp2 eqD (mVar 0) (mC (.str "both")))) (mRet (mAndV (mVar 1) (mVar 2))) mNext)
    (mRet (mIf (mTest (mOp2 eqD (mVar 0) (mC (.str "some")))) (mOrV (mVar 1) (mVar 2)) (mOp2 neD (mVar 1) (mVar 2)))))
def fn_is_kept : Fn := noX (fnSem 3 3 m_is_kept)
def c_joined_parts_0 : ME :=
    (mDcN (mItA itEL (mCons (mVar 3) mNil)) [8, 9] (gT [(gN 8), (gN 9)]) mYes (mVar 9) (mVar 8))
def c_joined_parts_1 : ME :=
    (mLc (mIt itL (mVar 3)) [12, 13] (gT [(gN 12), (gN 13)]) mYes (mOp2 getK (mVar 4) (mTup (mCons (mOp2 ixD (mOp2 ixD (mOp2 ixD (mVar 0) (mC (.int 2))) (mVar 10)) (mVar 12)) (mCons (mOp2 ixD (mOp2 ixD (mOp2 ixD (mVar 1) (mC (.int 2))) (mVar 11)) (mVar 13)) mNil)))))
def c_joined_parts_2 : ME :=
    (mLc (mIt itL (mVar 3)) [10, 11] (gT [(gN 10), (gN 11)]) mYes c_joined_parts_1)
def c_joined_parts_3 : ME :=
    (mLc (mIt itL (mVar 3)) [12, 13] (gT [(gN 12), (gN 13)]) mYes (mOp2 getK (mVar 4) (mTup (mCons (mOp2 ixD (mOp2 ixD (mOp2 ixD (mVar 0) (mC (.int 3))) (mVar 10)) (mVar 12)) (mCons (mOp2 ixD (mOp2 ixD (mOp2 ixD (mVar 1) (mC (.int 3))) (mVar 11)) (mVar 13)) mNil)))))
def c_joined_parts_4 : ME :=
    (mLc (mIt itL (mVar 3)) [10, 11] (gT [(gN 10), (gN 11)]) mYes c_joined_parts_3)
def c_joined_parts_5 : ME :=
    (mLc (mIt itL (mVar 3)) [10, 11] (gT [(gN 10), (gN 11)]) (mTest (mCallV fn_is_kept (mCons (mVar 2) (mCons (mOp2 (inA false) (mVar 10) (mOp2 ixD (mVar 0) (mC (.int 4)))) (mCons (mOp2 (inA false) (mVar 11) (mOp2 ixD (mVar 1) (mC (.int 4)))) mNil))))) (mOp2 getK (mVar 4) (mTup (mCons (mVar 10) (mCons (mVar 11) mNil)))))
def m_joined_parts : MS :=
    (mSeq (mAsg 3 (mCallV fn_met_pairs (mCons (mVar 0) (mCons (mVar 1) mNil))))
    (mSeq (mAsg 4 c_joined_parts_0)
    (mSeq (mAsg 5 c_joined_parts_2)
    (mSeq (mAsg 6 c_joined_parts_4)
    (mSeq (mAsg 7 c_joined_parts_5)
    (mRet (mTup (mCons (mOp2 getK (mVar 4) (mTup (mCons (mOp2 ixD (mVar 0) (mC (.int 0))) (mCons (mOp2 ixD (mVar 1) (mC (.int 0))) mNil)))) (mCons (mOp2 getK (mVar 4) (mTup (mCons (mOp2 ixD (mVar 0) (mC (.int 1))) (mCons (mOp2 ixD (mVar 1) (mC (.int 1))) mNil)))) (mCons (mVar 5) (mCons (mVar 6) (mCons (mVar 7) mNil))))))))))))
def fn_joined_parts : Fn := noX (fnSem 14 3 m_joined_parts)
def m_x_misread : MS :=
    (mSeq (mExpr (mCallX fn_x_require_table (mCons (mVar 0) mNil)))
    (mSeq (mExpr (mCallX fn_x_require_table (mCons (mVar 1) mNil)))
    (mSeq (mAsg 2 (mCallV fn_joined_parts (mCons (mCallV fn_five_of (mCons (mVar 0) mNil)) (mCons (mCallV fn_five_of (mCons (mVar 1) mNil)) (mCons (mC (.str "")) mNil)))))
    (mSeq (mIfS (mTest (mOp2 eqD (mOp2 ixD (mVar 2) (mC (.int 4))) (mLst mNil))) (mRet (mC .non)) mNext)
    (mSeq mDead
    (mRaise 2 "limit" (mC (.int 60))))))))
def fn_x_misread : Fn := (fnSem 5 2 m_x_misread)
def m_Table_ulenu : MS :=
    (mRet (mCall (one1 lenD) (mCons (mOp1 (fldD ix_own_rows) (mVar 0)) mNil)))
def fn_Table_ulenu : Fn := noX (fnSem 1 1 m_Table_ulenu)
def c_x_is_closed_set_0 : ME :=
    (mLc (mIt itT (mCallV fn_results_of (mCons (mOp1 (fldD ix_own_rows) (mVar 0)) (mCons (mOp1 (fldD ix_own_sides) (mVar 0)) (mCons (mVar 2) (mCons (mVar 3) mNil)))))) [4] (gN 4) mYes (mOp2 (inA false) (mVar 4) (mVar 1)))
def p_x_is_closed_set_1 : MS :=
    (mFor (mIt itT (mVar 1)) (gN 3) (mIfS (mNot (mTest (mCall (one1 (allD false)) (mCons c_x_is_closed_set_0 mNil)))) (mRet (mC (.bl false))) mNext))
def p_x_is_closed_set_2 : MS :=
    (mFor (mIt itT (mVar 1)) (gN 2) p_x_is_closed_set_1)
def m_x_is_closed_set : MS :=
    (mSeq (mExpr (mCallX fn_x_require_table (mCons (mVar 0) mNil)))
    (mSeq (mIfS (mOr (mNot (mTest (mCallV fn_are_states (mCons (mCall (one1 (lenOb 1 fn_Table_ulenu)) (mCons (mVar 0) mNil)) (mCons (mVar 1) mNil))))) (mOr (mTest (mOp2 (inA true) (mOp1 (fldD ix_own_tie) (mVar 0)) (mVar 1))) (mTest (mOp2 (inA true) (mOp1 (fldD ix_own_gap) (mVar 0)) (mVar 1))))) (mRet (mC (.bl false))) mNext)
    (mSeq p_x_is_closed_set_2
    (mRet (mC (.bl true))))))
def fn_x_is_closed_set : Fn := (fnSem 5 2 m_x_is_closed_set)
def m_l_calls_right : MS :=
    (mSeq (mAsg 2 (mLst (mCons (mC .non) (mCons (mC (.int 0)) (mCons (mC (.str "tie")) (mCons (mTup mNil) (mCons mDct0 (mCons (mC (.bl true)) (mCons (mLst (mCons (mVar 1) mNil)) (mCons (mOp1 (fun x => objN 1 fn_Table_rows [x]) (mVar 1)) mNil))))))))))
    (mSeq (mAsg 3 (mCallD fn_l_pick 0 (mCons (mOp2 addD (mOp2 addD (mOp2 mulL (mLst (mCons (mCm 0 fn_Building_tie mNil) mNil)) (mC (.int 3))) (mVar 2)) (mLst (mCons (mVar 1) mNil))) mNil)))
    (mSeq (mAsg 4 (mIf (mTest (mOp1 (isD 2 ans_Building) (mVar 3))) (mC (.str "")) (mC (.str "building"))))
    (mSeq (mAsgO 5 (mLst (mCons (mToldX excL tc_l_met (some "") (mMethX 1 fn_x_Table_state_of (mVar 1) (mCons (mVar 3) mNil))) mNil)))
    (mSeq (mExpr (mAppend 5 (mCons (mToldX excL tc_l_met (some "") (mMethX 1 fn_x_Table_accepts (mVar 1) (mCons (mVar 3) mNil))) mNil)))
    (mSeq (mIfS (mTest (mOp2 neD (mGive 5) (mLst (mCons (mVar 4) (mCons (mVar 4) mNil))))) (mRet (mC (.bl false))) mNext)
    (mSeq (mAsg 6 (mLst (mCons (mTup (mCons (mC (.int 0)) mNil)) (mCons (mTup (mCons (mC (.int 0)) (mCons (mC (.int 0)) mNil))) (mCons (mTup (mCons (mC (.int 0)) (mCons (mC (.int 1)) (mCons (mC (.int 2)) mNil)))) (mCons (mLst (mCons (mC (.int 0)) (mCons (mC (.int 1)) mNil))) (mCons (mTup (mCons (mC (.bl true)) (mCons (mC (.int 0)) mNil))) (mCons (mTup (mCons (mC (.int 0)) (mCons (mC (.bl true)) mNil))) (mCons (mTup (mCons (mC (.str "0")) (mCons (mC (.str "1")) mNil))) (mCons (mC .non) (mCons (mC (.int 0)) (mCons mDct0 mNil))))))))))))
    (mSeq (mAsg 7 (mCallD fn_l_pick 0 (mCons (mOp2 addD (mOp2 mulL (mLst (mCons (mTup (mCons (mC (.int 0)) (mCons (mC (.int 1)) mNil))) (mCons (mTup (mCons (mC (.int 1)) (mCons (mC (.int 0)) mNil))) mNil))) (mC (.int 2))) (mVar 6)) mNil)))
    (mSeq (mIfS (mTest (mOp2 neD (mToldX excL tc_l_met (some "") (mMethX 1 fn_x_Table_renumbered (mVar 1) (mCons (mVar 7) mNil))) (mIf (mTest (mOp2 (inA false) (mCall (one1 reprX) (mCons (mVar 7) mNil)) (mTup (mCons (mC (.str "(0, 1)")) (mCons (mC (.str "(1, 0)")) mNil))))) (mC (.str "")) (mC (.str "operation"))))) (mRet (mC (.bl false))) mNext)
    (mSeq (mAsg 8 (mCallD fn_l_pick 0 (mCons (mLst (mCons (mTup mNil) (mCons (mTup (mCons (mC (.int 0)) mNil)) (mCons (mTup (mCons (mC (.int 1)) mNil)) (mCons (mTup (mCons (mC (.int 0)) (mCons (mC (.int 1)) mNil))) (mCons (mTup (mCons (mC (.int 1)) (mCons (mC (.int 0)) mNil))) (mCons (mTup (mCons (mC (.int 2)) mNil)) (mCons (mLst (mCons (mC (.int 0)) mNil)) (mCons (mTup (mCons (mC (.bl true)) mNil)) (mCons (mC .non) (mCons (mC (.int 0)) (mCons mDct0 (mCons (mTup (mCons (mC (.str "0")) mNil)) (mCons (mTup (mCons (mC (.int 0)) (mCons (mC (.int 0)) mNil))) mNil)))))))))))))) mNil)))
    (mSeq (mAsg 9 (mOp2 (inA false) (mCall (one1 reprX) (mCons (mVar 8) mNil)) (mTup (mCons (mC (.str "()")) (mCons (mC (.str "(0,)")) (mCons (mC (.str "(1,)")) (mCons (mC (.str "(0, 1)")) mNil)))))))
    (mSeq (mIfS (mTest (mOp2 neD (mToldX excL tc_l_met (some "") (mMethX 1 fn_x_Table_with_accepted (mVar 1) (mCons (mVar 8) mNil))) (mIf (mTest (mVar 9)) (mC (.str "")) (mC (.str "operation"))))) (mRet (mC (.bl false))) mNext)
    (mSeq (mAsgG (gT [(gN 12), (gN 13)]) (mTup (mCons (mCallD fn_l_pick 0 (mCons (mOp2 addD (mOp2 mulL (mLst (mCons (mVar 1) mNil)) (mC (.int 2))) (mVar 2)) mNil)) (mCons (mCallD fn_l_pick 0 (mCons (mOp2 addD (mOp2 mulL (mLst (mCons (mVar 1) mNil)) (mC (.int 2))) (mVar 2)) mNil)) mNil))))
    (mSeq (mAsg 10 (mIf (mTest (mOp1 (isD 2 ans_Table) (mVar 12))) (mC (.str "")) (mC (.str "table"))))
    (mSeq (mAsg 11 (mIf (mTest (mOp1 (isD 2 ans_Table) (mVar 13))) (mC (.str "")) (mC (.str "table"))))
    (mSeq (mAsgO 5 (mLst (mCons (mToldX excL tc_l_met (some "") (mCallX fn_x_misread (mCons (mVar 12) (mCons (mVar 13) mNil)))) mNil)))
    (mSeq (mExpr (mAppend 5 (mCons (mToldX excL tc_l_met (some "") (mCallX fn_x_is_closed_set (mCons (mVar 12) (mCons (mVar 13) mNil)))) mNil)))
    (mRet (mOp2 eqD (mGive 5) (mLst (mCons (mIf (mTest (mOp2 neD (mVar 10) (mC (.str "")))) (mVar 10) (mVar 11)) (mCons (mVar 10) mNil))))))))))))))))))))))
def fn_l_calls_right : Fn := noX (fnSem 14 2 m_l_calls_right)
def p_lawX_0 : MS :=
    (mFor (mItA rng1 (mCons (mC (.int 4)) mNil)) (gN 4) (mIfS (mOr (mNot (mTest (mCallD fn_l_parts_right 3 mNil))) (mNot (mTest (mCallD fn_l_calls_right 3 (mCons (mVar 1) mNil))))) (mRet (mC (.bl false))) mNext))
def p_lawX_1 : MS :=
    (mFor (mItA rng1 (mCons (mCall (two1 maxD) (mCons (mC (.int 1)) (mCons (mCall (two1 minD) (mCons (mC (.int 3)) (mCons (mCall (one1 lenD) (mCons (mVar 0) mNil)) mNil))) mNil))) mNil)) (gN 2) (mSeq (mAsgO 3 (mCallV fn_l_dice (mCons (mVar 0) (mCons (mVar 2) mNil))))
    p_lawX_0))
def m_lawX : MS :=
    (mSeq (mAsg 1 (mMake 1 fn_Table_uinitu (mCons (mC (.int 1)) (mCons (mC (.int 0)) (mCons (mTup (mCons (mTup (mCons (mC (.int 0)) (mCons (mC (.int 1)) mNil))) (mCons (mTup (mCons (mC (.int 1)) (mCons (mC (.int 1)) mNil))) mNil))) (mCons (mTup (mCons (mTup (mCons (mC (.int 0)) (mCons (mC (.int 0)) mNil))) (mCons (mTup (mCons (mC (.int 0)) (mCons (mC (.int 1)) mNil))) mNil))) (mCons (mTup (mCons (mC (.int 1)) mNil)) mNil)))))))
    (mSeq p_lawX_1
    (mRet (mOp2 eqD (mToldX excL tc_l_met (some "") (mMakeX 1 fn_x_Table_uinitu (mCons (mC (.int 0)) (mCons (mC (.int 0)) (mCons (mTup (mCons (mTup (mCons (mC (.int 0)) mNil)) mNil)) (mCons (mTup (mCons (mTup (mCons (mC (.int 0)) mNil)) mNil)) (mCons (mTup mNil) mNil))))))) (mC (.str ""))))))
def fn_lawX : Fn := noX (fnSem 5 1 m_lawX)
end PM.G

/-! printed by gen.py from the defs of the law: what each is worth, and why -/
namespace PM.G
open PySem PySem.Spec PyProof.Rows L2 PM
/-- what the top must have written -/
structure Tx (K : PySem.W.Frag) (mg : Str → Option Value) (wo : World) (w : Wd) : Prop where
  hK : w.K = K
  hT : w.T = []
  hW : w.wo = wo
  cok : ClsOk w 2
  n_abs : mg "abs" = none
  n_all : mg "all" = none
  n_bool : mg "bool" = none
  n_enumerate : mg "enumerate" = none
  n_int : mg "int" = none
  n_isinstance : mg "isinstance" = none
  n_len : mg "len" = none
  n_list : mg "list" = none
  n_max : mg "max" = none
  n_min : mg "min" = none
  n_range : mg "range" = none
  n_repr : mg "repr" = none
  n_set : mg "set" = none
  n_sorted : mg "sorted" = none
  n_tuple : mg "tuple" = none
  n_zip : mg "zip" = none
  i_GREAT : ∃ t, mg "GREAT" = some (.int 1000000000000000000000000000000000000000000000000000000000000 t)
  i_MAX_LEAVES : ∃ t, mg "MAX_LEAVES" = some (.int 60 t)
  i_MAX_STATES : ∃ t, mg "MAX_STATES" = some (.int 400 t)
  i_BOTH : ∃ t, mg "BOTH" = some (.str "both" t)
  i_ROW : ∃ t, mg "ROW" = some (.str "row" t)
  i_SOME : ∃ t, mg "SOME" = some (.str "some" t)
  i_TIE : ∃ t, mg "TIE" = some (.str "tie" t)
  t_LOST : ∃ a, mg "LOST" = some (.ref a) ∧ ∀ z d, tab_LOST z = some d → ∃ v, KDct K wo a z v ∧ ∀ O H, Rep w O H d v
  t_SIGNS : ∃ a, mg "SIGNS" = some (.ref a) ∧ ∀ z d, tab_SIGNS z = some d → ∃ v, KDct K wo a z v ∧ ∀ O H, Rep w O H d v
  c_Building : mg "Building" = some (.ref (w.cl 0))
  c_InvalidBuilding : mg "InvalidBuilding" = some (.ref (w.cl 4))
  c_InvalidOperation : mg "InvalidOperation" = some (.ref (w.cl 5))
  c_InvalidTable : mg "InvalidTable" = some (.ref (w.cl 3))
  c_Table : mg "Table" = some (.ref (w.cl 1))
  c_TooMany : mg "TooMany" = some (.ref (w.cl 2))
  n_super : mg "super" = none
  k_TooMany : ClK w.K (w.cl 2) "limit"
  exm : ∀ a ∈ excL, ∀ b ∈ excL, PySem.W.exmOne w.K (.ref (w.cl a)) (.ref (w.cl b)) = some (a == b)
  sys : (w.K.lookup sysModules).isSome = true
  x0_InvalidTable : Err0 w.K (w.cl 3) "ValueError.__new__" [.type "ValueError", .type "Exception", .type "BaseException", .type "object"]
  x0_InvalidBuilding : Err0 w.K (w.cl 4) "ValueError.__new__" [.type "ValueError", .type "Exception", .type "BaseException", .type "object"]
  x0_InvalidOperation : Err0 w.K (w.cl 5) "ValueError.__new__" [.type "ValueError", .type "Exception", .type "BaseException", .type "object"]
  isi_Building : ∀ t b, ans_Building t = some b → PySem.W.kitOne w.K (t.v w) (.ref (w.cl 0)) = some b
  isi_Table : ∀ t b, ans_Table t = some b → PySem.W.kitOne w.K (t.v w) (.ref (w.cl 1)) = some b
  isi_bool : ∀ t b, ans_bool t = some b → PySem.W.kitOne w.K (t.v w) (.type "bool") = some b
  isi_int : ∀ t b, ans_int t = some b → PySem.W.kitOne w.K (t.v w) (.type "int") = some b
  isi_tuple : ∀ t b, ans_tuple t = some b → PySem.W.kitOne w.K (t.v w) (.type "tuple") = some b
  sl_own_accepted : SlotsOk w "own_accepted" ix_own_accepted
  sl_own_gap : SlotsOk w "own_gap" ix_own_gap
  sl_own_leaves : SlotsOk w "own_leaves" ix_own_leaves
  sl_own_many : SlotsOk w "own_many" ix_own_many
  sl_own_parts : SlotsOk w "own_parts" ix_own_parts
  sl_own_rows : SlotsOk w "own_rows" ix_own_rows
  sl_own_sides : SlotsOk w "own_sides" ix_own_sides
  sl_own_size : SlotsOk w "own_size" ix_own_size
  sl_own_text : SlotsOk w "own_text" ix_own_text
  sl_own_tie : SlotsOk w "own_tie" ix_own_tie
  sl_word : SlotsOk w "word" ix_word
  st_own_leaves_0 : SetOk w 0 "own_leaves" 0
  st_own_many_0 : SetOk w 0 "own_many" 1
  st_own_parts_0 : SetOk w 0 "own_parts" 2
  st_own_size_0 : SetOk w 0 "own_size" 3
  st_own_text_0 : SetOk w 0 "own_text" 4
  st_word_0 : SetOk w 0 "word" 5
  st_own_accepted_1 : SetOk w 1 "own_accepted" 0
  st_own_gap_1 : SetOk w 1 "own_gap" 1
  st_own_rows_1 : SetOk w 1 "own_rows" 2
  st_own_sides_1 : SetOk w 1 "own_sides" 3
  st_own_tie_1 : SetOk w 1 "own_tie" 4
  f_is_whole : ∃ a fd, Fun K "is_whole" "is_whole" s_is_whole a fd ∧ mg "is_whole" = some (.ref a)
  f_is_integer : ∃ a fd, Fun K "is_integer" "is_integer" s_is_integer a fd ∧ mg "is_integer" = some (.ref a)
  f_is_state : ∃ a fd, Fun K "is_state" "is_state" s_is_state a fd ∧ mg "is_state" = some (.ref a)
  f_is_square : ∃ a fd, Fun K "is_square" "is_square" s_is_square a fd ∧ mg "is_square" = some (.ref a)
  f_are_states : ∃ a fd, Fun K "are_states" "are_states" s_are_states a fd ∧ mg "are_states" = some (.ref a)
  f_are_right : ∃ a fd, Fun K "are_right" "are_right" s_are_right a fd ∧ mg "are_right" = some (.ref a)
  f_Table_uinitu : ∃ g fd, Fun K "__init__" "Table.__init__" s_Table_uinitu g fd ∧ Mk K (w.cl 1) g
  f_l_dice : ∃ a fd, Fun K "_law_dice" "_law_dice" s_l_dice a fd ∧ mg "_law_dice" = some (.ref a)
  f_l_roll : ∃ a fd, Fun K "_law_roll" "_law_roll" s_l_roll a fd ∧ mg "_law_roll" = some (.ref a)
  f_l_pick : ∃ a fd, Fun K "_law_pick" "_law_pick" s_l_pick a fd ∧ mg "_law_pick" = some (.ref a)
  f_l_spoilt : ∃ a fd, Fun K "_law_spoilt" "_law_spoilt" s_l_spoilt a fd ∧ mg "_law_spoilt" = some (.ref a)
  f_l_met : ∃ a fd, Fun K "_law_met" "_law_met" s_l_met a fd ∧ mg "_law_met" = some (.ref a)
  f_l_parts_right : ∃ a fd, Fun K "_law_parts_right" "_law_parts_right" s_l_parts_right a fd ∧ mg "_law_parts_right" = some (.ref a)
  f_Table_rows : ∃ g fd, Fun K "rows" "Table.rows" s_Table_rows g fd ∧ PropOk w 1 "rows" g
  f_Building_uinitu : ∃ g fd, Fun K "__init__" "Building.__init__" s_Building_uinitu g fd ∧ Mk K (w.cl 0) g
  f_Building_tie : ∃ g fd, Fun K "tie" "Building.tie" s_Building_tie g fd ∧ CmOk w 0 "tie" g
  f_require_building : ∃ a fd, Fun K "require_building" "require_building" s_require_building a fd ∧ mg "require_building" = some (.ref a)
  f_Building_parts : ∃ g fd, Fun K "parts" "Building.parts" s_Building_parts g fd ∧ PropOk w 0 "parts" g
  f_state_in : ∃ a fd, Fun K "state_in" "state_in" s_state_in a fd ∧ mg "state_in" = some (.ref a)
  f_Table_state_of : ∃ g fd, Fun K "state_of" "Table.state_of" s_Table_state_of g fd ∧ MethOk w 1 "state_of" g
  f_Table_accepts : ∃ g fd, Fun K "accepts" "Table.accepts" s_Table_accepts g fd ∧ MethOk w 1 "accepts" g
  f_table_by : ∃ a fd, Fun K "table_by" "table_by" s_table_by a fd ∧ mg "table_by" = some (.ref a)
  f_renumbered_parts : ∃ a fd, Fun K "renumbered_parts" "renumbered_parts" s_renumbered_parts a fd ∧ mg "renumbered_parts" = some (.ref a)
  f_five_of : ∃ a fd, Fun K "five_of" "five_of" s_five_of a fd ∧ mg "five_of" = some (.ref a)
  f_Table_renumbered : ∃ g fd, Fun K "renumbered" "Table.renumbered" s_Table_renumbered g fd ∧ MethOk w 1 "renumbered" g
  f_Table_with_accepted : ∃ g fd, Fun K "with_accepted" "Table.with_accepted" s_Table_with_accepted g fd ∧ MethOk w 1 "with_accepted" g
  f_require_table : ∃ a fd, Fun K "require_table" "require_table" s_require_table a fd ∧ mg "require_table" = some (.ref a)
  f_results_of : ∃ a fd, Fun K "results_of" "results_of" s_results_of a fd ∧ mg "results_of" = some (.ref a)
  f_met_pairs : ∃ a fd, Fun K "met_pairs" "met_pairs" s_met_pairs a fd ∧ mg "met_pairs" = some (.ref a)
  f_is_kept : ∃ a fd, Fun K "is_kept" "is_kept" s_is_kept a fd ∧ mg "is_kept" = some (.ref a)
  f_joined_parts : ∃ a fd, Fun K "joined_parts" "joined_parts" s_joined_parts a fd ∧ mg "joined_parts" = some (.ref a)
  f_misread : ∃ a fd, Fun K "misread" "misread" s_misread a fd ∧ mg "misread" = some (.ref a)
  f_Table_ulenu : ∃ g fd, Fun K "__len__" "Table.__len__" s_Table_ulenu g fd ∧ DunOk w 1 "__len__" g
  f_is_closed_set : ∃ a fd, Fun K "is_closed_set" "is_closed_set" s_is_closed_set a fd ∧ mg "is_closed_set" = some (.ref a)
  f_l_calls_right : ∃ a fd, Fun K "_law_calls_right" "_law_calls_right" s_l_calls_right a fd ∧ mg "_law_calls_right" = some (.ref a)
  f_lawX : ∃ a fd, Fun K "law" "law" s_lawX a fd ∧ mg "law" = some (.ref a)
structure TxP (P : Program) (K : PySem.W.Frag) (w : Wd) : Prop where
  x_TooMany : ErrK P K (w.cl 2) "limit"
section
variable {P : Program} {wo : World} {K : PySem.W.Frag} {mg : Str → Option Value} {base : Heap} {w : Wd}
/-! ### is_whole -/
theorem sc_is_whole : FnScope ["value"] ["value"] (defScope s_is_whole) := ⟨rfl, rfl, rfl, by decide +kernel, rfl, by decide +kernel, by decide +kernel⟩
theorem ok_is_whole (T : Tx K mg wo w) (TP : TxP P K w) : DefOk false P wo K mg base w "is_whole" 1 1 fn_is_whole := by
  obtain ⟨a, fd, F, hm⟩ := T.f_is_whole
  refine ⟨a, fd, ["value"], rfl, (show FnP false P wo K mg base (0 + 1) a fd _ _ from fn_ok0 T.hT false F sc_is_whole (by decide) fun cdv A outer s H E hgu hr => ?_), hm, F.kp, (F.binds fun _ _ _ _ _ _ us hl => match us, hl with | [_], _ => rfl)⟩
  exact (pms_one (pms_ret (pm_and (pm_isiB T.hK T.cok T.isi_int (by rfl) T.n_isinstance (by rfl) T.n_int rfl (pm_var 0)) (pm_one (pm_not (pm_isiB T.hK T.cok T.isi_bool (by rfl) T.n_isinstance (by rfl) T.n_bool rfl (pm_var 0)))))))
/-! ### is_integer -/
theorem sc_is_integer : FnScope ["value"] ["value"] (defScope s_is_integer) := ⟨rfl, rfl, rfl, by decide +kernel, rfl, by decide +kernel, by decide +kernel⟩
theorem ok_is_integer (T : Tx K mg wo w) (TP : TxP P K w) : DefOk false P wo K mg base w "is_integer" 1 2 fn_is_integer := by
  obtain ⟨a, fd, F, hm⟩ := T.f_is_integer
  have d_is_whole := ok_is_whole (P := P) (base := base) T TP
  obtain ⟨_, i_GREAT⟩ := T.i_GREAT
  refine ⟨a, fd, ["value"], rfl, (show FnP false P wo K mg base (1 + 1) a fd _ _ from fn_ok0 T.hT false F sc_is_integer (by decide) fun cdv A outer s H E hgu hr => ?_), hm, F.kp, (F.binds fun _ _ _ _ _ _ us hl => match us, hl with | [_], _ => rfl)⟩
  exact (pms_one (pms_ret (pm_and (pm_call d_is_whole (fun z => by cases z) (hr.mono (by omega)) (by rfl) (pma_cons (pm_var 0) pma_nil) (len_cons len_nil)) (pm_one (pm_chain op_lt op_lt (o2_intB fun i j => decide (i < j)) (o2_intB fun i j => decide (i < j)) (pm_neg (pm_gint (by rfl) i_GREAT)) (pm_var 0) (pm_gint (by rfl) i_GREAT))))))
/-! ### is_state -/
theorem sc_is_state : FnScope ["many", "value"] ["many", "value"] (defScope s_is_state) := ⟨rfl, rfl, rfl, by decide +kernel, rfl, by decide +kernel, by decide +kernel⟩
theorem ok_is_state (T : Tx K mg wo w) (TP : TxP P K w) : DefOk false P wo K mg base w "is_state" 2 3 fn_is_state := by
  obtain ⟨a, fd, F, hm⟩ := T.f_is_state
  have d_is_integer := ok_is_integer (P := P) (base := base) T TP
  refine ⟨a, fd, ["many", "value"], rfl, (show FnP false P wo K mg base (2 + 1) a fd _ _ from fn_ok0 T.hT false F sc_is_state (by decide) fun cdv A outer s H E hgu hr => ?_), hm, F.kp, (F.binds fun _ _ _ _ _ _ us hl => match us, hl with | [_, _], _ => rfl)⟩
  exact (pms_one (pms_ret (pm_and (pm_call d_is_integer (fun z => by cases z) (hr.mono (by omega)) (by rfl) (pma_cons (pm_var 1) pma_nil) (len_cons len_nil)) (pm_one (pm_chain op_le op_lt (o2_intB fun i j => decide (i ≤ j)) (o2_intB fun i j => decide (i < j)) pm_int (pm_var 1) (pm_var 0))))))
/-! ### is_square -/
theorem sc_is_square : FnScope ["many", "value", "line", "state"] ["many", "value"] (defScope s_is_square) := ⟨rfl, rfl, rfl, by decide +kernel, rfl, by decide +kernel, by decide +kernel⟩
theorem ok_is_square (T : Tx K mg wo w) (TP : TxP P K w) : DefOk false P wo K mg base w "is_square" 2 4 fn_is_square := by
  obtain ⟨a, fd, F, hm⟩ := T.f_is_square
  have d_is_state := ok_is_state (P := P) (base := base) T TP
  refine ⟨a, fd, ["many", "value"], rfl, (show FnP false P wo K mg base (3 + 1) a fd _ _ from fn_ok0 T.hT false F sc_is_square (by decide) fun cdv A outer s H E hgu hr => ?_), hm, F.kp, (F.binds fun _ _ _ _ _ _ us hl => match us, hl with | [_, _], _ => rfl)⟩
  exact (pms_cons (pms_if (PMW.pt (pmw_or (pmt_not (pmt_val (pm_isiB T.hK T.cok T.isi_tuple (by rfl) T.n_isinstance (by rfl) T.n_tuple rfl (pm_var 1)))) (pmw_or1 (pmt_ne T.hK hr (pm_len T.hK (by rfl) T.n_len (pma_cons (pm_var 1) pma_nil)) (pm_var 0))))) (pms_one (pms_ret pm_bl)) pms_nil)
      (pms_cons (pms_for PassesOwn.never rfl (pmi_tup T.hK (pm_var 1)) (pmg_name (i := 2) sc_is_square.nd rfl (by first | exact .inl rfl | exact .inr rfl)) (pms_one (pms_if (PMW.pt (pmw_or (pmt_not (pmt_val (pm_isiB T.hK T.cok T.isi_tuple (by rfl) T.n_isinstance (by rfl) T.n_tuple rfl (pm_var 2)))) (pmw_or (pmt_ne T.hK hr (pm_len T.hK (by rfl) T.n_len (pma_cons (pm_var 2) pma_nil)) (pm_var 0)) (pmw_or1 (pmt_not (pmt_val (pm_all T.hK rfl (by rfl) T.n_all (pma_cons (pm_lc (own := [("state", 3)]) rfl sc_is_square.nd (pmi_tup T.hK (pm_var 2)) (blkOk_by (by kernel_rfl)) (by decide) (fun _ _ _ _ _ => (pmg_name (i := 3) sc_is_square.nd rfl (by first | exact .inl rfl | exact .inr rfl))) (fun _ _ _ _ _ => pmts_nil) (fun _ _ _ _ _ => (pm_call d_is_state (fun z => by cases z) (hr.mono (by omega)) (by rfl) (pma_cons (pm_var 0) (pma_cons (pm_var 3) pma_nil)) (len_cons (len_cons len_nil))))) pma_nil)))))))) (pms_one (pms_ret pm_bl)) pms_nil)))
      (pms_one (pms_ret pm_bl))))
/-! ### are_states -/
theorem sc_are_states : FnScope ["many", "value", "one", "other", "state"] ["many", "value"] (defScope s_are_states) := ⟨rfl, rfl, rfl, by decide +kernel, rfl, by decide +kernel, by decide +kernel⟩
theorem ok_are_states (T : Tx K mg wo w) (TP : TxP P K w) : DefOk false P wo K mg base w "are_states" 2 4 fn_are_states := by
  obtain ⟨a, fd, F, hm⟩ := T.f_are_states
  have d_is_state := ok_is_state (P := P) (base := base) T TP
  refine ⟨a, fd, ["many", "value"], rfl, (show FnP false P wo K mg base (3 + 1) a fd _ _ from fn_ok0 T.hT false F sc_are_states (by decide) fun cdv A outer s H E hgu hr => ?_), hm, F.kp, (F.binds fun _ _ _ _ _ _ us hl => match us, hl with | [_, _], _ => rfl)⟩
  exact (pms_cons (pms_if (PMW.pt (pmw_or (pmt_not (pmt_val (pm_isiB T.hK T.cok T.isi_tuple (by rfl) T.n_isinstance (by rfl) T.n_tuple rfl (pm_var 1)))) (pmw_or1 (pmt_not (pmt_val (pm_all T.hK rfl (by rfl) T.n_all (pma_cons (pm_lc (own := [("state", 4)]) rfl sc_are_states.nd (pmi_tup T.hK (pm_var 1)) (blkOk_by (by kernel_rfl)) (by decide) (fun _ _ _ _ _ => (pmg_name (i := 4) sc_are_states.nd rfl (by first | exact .inl rfl | exact .inr rfl))) (fun _ _ _ _ _ => pmts_nil) (fun _ _ _ _ _ => (pm_call d_is_state (fun z => by cases z) (hr.mono (by omega)) (by rfl) (pma_cons (pm_var 0) (pma_cons (pm_var 4) pma_nil)) (len_cons (len_cons len_nil))))) pma_nil))))))) (pms_one (pms_ret pm_bl)) pms_nil)
      (pms_one (pms_ret (pm_all T.hK rfl (by rfl) T.n_all (pma_cons (pm_lc (own := [("one", 2), ("other", 3)]) rfl sc_are_states.nd (pmi_zipT T.hK (by rfl) T.n_zip (pma_cons (pm_var 1) (pma_cons (pm_slice T.hK (pm_var 1) (pmo_some pm_int) pmo_none) pma_nil))) (blkOk_by (by kernel_rfl)) (by decide) (fun _ _ _ _ _ => (pmg_tup T.hK rfl (pmgs_cons (pmg_name (i := 2) sc_are_states.nd rfl (by first | exact .inl rfl | exact .inr rfl)) (pmgs_cons (pmg_name (i := 3) sc_are_states.nd rfl (by first | exact .inl rfl | exact .inr rfl)) pmgs_nil)))) (fun _ _ _ _ _ => pmts_nil) (fun _ _ _ _ _ => (pm_lt (pm_var 2) (pm_var 3)))) pma_nil)))))
/-! ### are_right -/
theorem sc_are_right : FnScope ["tie", "gap", "rows", "sides", "accepted", "many"] ["tie", "gap", "rows", "sides", "accepted"] (defScope s_are_right) := ⟨rfl, rfl, rfl, by decide +kernel, rfl, by decide +kernel, by decide +kernel⟩
theorem ok_are_right (T : Tx K mg wo w) (TP : TxP P K w) : DefOk false P wo K mg base w "are_right" 5 5 fn_are_right := by
  obtain ⟨a, fd, F, hm⟩ := T.f_are_right
  have d_is_state := ok_is_state (P := P) (base := base) T TP
  have d_is_square := ok_is_square (P := P) (base := base) T TP
  have d_are_states := ok_are_states (P := P) (base := base) T TP
  obtain ⟨_, i_MAX_STATES⟩ := T.i_MAX_STATES
  refine ⟨a, fd, ["tie", "gap", "rows", "sides", "accepted"], rfl, (show FnP false P wo K mg base (4 + 1) a fd _ _ from fn_ok0 T.hT false F sc_are_right (by decide) fun cdv A outer s H E hgu hr => ?_), hm, F.kp, (F.binds fun _ _ _ _ _ _ us hl => match us, hl with | [_, _, _, _, _], _ => rfl)⟩
  exact (pms_cons (pms_if (PMW.pt (pmw_or (pmt_not (pmt_val (pm_isiB T.hK T.cok T.isi_tuple (by rfl) T.n_isinstance (by rfl) T.n_tuple rfl (pm_var 2)))) (pmw_or1 (pmt_not (pmt_chain op_le op_le (o2_intB fun i j => decide (i ≤ j)) (o2_intB fun i j => decide (i ≤ j)) pm_int (pm_len T.hK (by rfl) T.n_len (pma_cons (pm_var 2) pma_nil)) (pm_gint (by rfl) i_MAX_STATES)))))) (pms_one (pms_ret pm_bl)) pms_nil)
      (pms_cons (pms_set (i := 5) sc_are_right.nd rfl (by first | exact .inl rfl | exact .inr rfl) (pm_len T.hK (by rfl) T.n_len (pma_cons (pm_var 2) pma_nil)))
      (pms_cons (pms_if (PMW.pt (pmw_or (pmt_not (pmt_val (pm_call d_is_state (fun z => by cases z) (hr.mono (by omega)) (by rfl) (pma_cons (pm_var 5) (pma_cons (pm_var 0) pma_nil)) (len_cons (len_cons len_nil))))) (pmw_or1 (pmt_not (pmt_val (pm_call d_is_state (fun z => by cases z) (hr.mono (by omega)) (by rfl) (pma_cons (pm_var 5) (pma_cons (pm_var 1) pma_nil)) (len_cons (len_cons len_nil)))))))) (pms_one (pms_ret pm_bl)) pms_nil)
      (pms_one (pms_ret (pm_and (pm_call d_is_square (fun z => by cases z) (hr.mono (by omega)) (by rfl) (pma_cons (pm_var 5) (pma_cons (pm_var 2) pma_nil)) (len_cons (len_cons len_nil))) (pm_and (pm_call d_is_square (fun z => by cases z) (hr.mono (by omega)) (by rfl) (pma_cons (pm_var 5) (pma_cons (pm_var 3) pma_nil)) (len_cons (len_cons len_nil))) (pm_one (pm_call d_are_states (fun z => by cases z) (hr.mono (by omega)) (by rfl) (pma_cons (pm_var 5) (pma_cons (pm_var 4) pma_nil)) (len_cons (len_cons len_nil)))))))))))
/-! ### Table.__init__ -/
theorem sc_Table_uinitu : FnScope ["self", "tie", "gap", "rows", "sides", "accepted"] ["self", "tie", "gap", "rows", "sides", "accepted"] (defScope s_Table_uinitu) := ⟨rfl, rfl, rfl, by decide +kernel, rfl, by decide +kernel, by decide +kernel⟩
theorem ok_Table_uinitu (T : Tx K mg wo w) (TP : TxP P K w) : MkOk P wo K mg base w 1 5 6 fn_Table_uinitu := by
  obtain ⟨a, fd, F, hm⟩ := T.f_Table_uinitu
  have d_are_right := ok_are_right (P := P) (base := base) T TP
  refine ⟨⟨a, fd, ["self", "tie", "gap", "rows", "sides", "accepted"], rfl, hm, (show FnOk P wo K mg base CX0 (5 + 1) a fd _ _ from init_ok0 T.hT F sc_Table_uinitu (by decide) fun cdv A outer s H E hr => ?_), (F.binds fun _ _ _ _ _ _ us hl => match us, hl with | [_, _, _, _, _, _], _ => rfl)⟩⟩
  exact (pms_cons (pms_if (pmt_not (pmt_val (pm_call d_are_right (fun z => by cases z) (hr.mono (by omega)) (by rfl) (pma_cons (pm_var 1) (pma_cons (pm_var 2) (pma_cons (pm_var 3) (pma_cons (pm_var 4) (pma_cons (pm_var 5) pma_nil))))) (len_cons (len_cons (len_cons (len_cons (len_cons len_nil)))))))) (pms_one pms_dead) pms_nil)
      (pms_cons (pms_fld (i := 0) (c := 1) T.hK T.st_own_tie_1 (pm_var 1))
      (pms_cons (pms_fld (i := 0) (c := 1) T.hK T.st_own_gap_1 (pm_var 2))
      (pms_cons (pms_fld (i := 0) (c := 1) T.hK T.st_own_rows_1 (pm_var 3))
      (pms_cons (pms_fld (i := 0) (c := 1) T.hK T.st_own_sides_1 (pm_var 4))
      (pms_one (pms_fld (i := 0) (c := 1) T.hK T.st_own_accepted_1 (pm_var 5))))))))
/-! ### _law_dice -/
theorem sc_l_dice : FnScope ["_law_script", "_law_spot", "_law_cell", "_law_left"] ["_law_script", "_law_spot"] (defScope s_l_dice) := ⟨rfl, rfl, rfl, by decide +kernel, rfl, by decide +kernel, by decide +kernel⟩
theorem ok_l_dice (T : Tx K mg wo w) (TP : TxP P K w) : DefOk false P wo K mg base w "_law_dice" 2 1 fn_l_dice := by
  obtain ⟨a, fd, F, hm⟩ := T.f_l_dice
  refine ⟨a, fd, ["_law_script", "_law_spot"], rfl, (show FnP false P wo K mg base (0 + 1) a fd _ _ from fn_ok0 T.hT false F sc_l_dice (by decide) fun cdv A outer s H E hgu hr => ?_), hm, F.kp, (F.binds fun _ _ _ _ _ _ us hl => match us, hl with | [_, _], _ => rfl)⟩
  exact (pms_cons (pms_set (i := 2) sc_l_dice.nd rfl (by first | exact .inl rfl | exact .inr rfl) (pm_if (pmt_lt (pm_var 1) (pm_len T.hK (by rfl) T.n_len (pma_cons (pm_var 0) pma_nil))) (pm_int1 (by rfl) T.n_int (pma_cons (pm_item T.hK (pm_var 0) (pm_var 1)) pma_nil)) (pm_add T.hK (pm_mul pm_int (pm_var 1)) pm_int)))
      (pms_cons (pms_set (i := 3) sc_l_dice.nd rfl (by first | exact .inl rfl | exact .inr rfl) (pm_mod (pm_max rfl (by rfl) T.n_max (pma_cons pm_int (pma_cons (pm_sub (pm_abs (by rfl) T.n_abs (pma_cons (pm_var 2) pma_nil)) (pm_pow pm_int pm_int)) pma_nil))) (pm_mul (pm_pow pm_int pm_int) (pm_pow pm_int pm_int))))
      (pms_one (pms_ret (pm_lst (pma_cons (pm_var 3) (pma_cons (pm_add T.hK (pm_add T.hK (pm_add T.hK (pm_mul (pm_mod (pm_abs (by rfl) T.n_abs (pma_cons (pm_var 2) pma_nil)) pm_int) pm_int) (pm_mul pm_int (pm_var 1))) (pm_mul pm_int (pm_int1 (by rfl) T.n_int (pma_cons (pm_lt (pm_var 2) pm_int) pma_nil)))) pm_int) (pma_cons pm_int pma_nil))))))))
/-! ### _law_roll -/
theorem sc_l_roll : FnScope ["_law_dice_here", "_law_total", "_law_one", "_law_two", "_law_found"] ["_law_dice_here", "_law_total"] (defScope s_l_roll) := ⟨rfl, rfl, rfl, by decide +kernel, rfl, by decide +kernel, by decide +kernel⟩
theorem ok_l_roll (T : Tx K mg wo w) (TP : TxP P K w) : DefOk false P wo K mg base w "_law_roll" 2 1 fn_l_roll := by
  obtain ⟨a, fd, F, hm⟩ := T.f_l_roll
  refine ⟨a, fd, ["_law_dice_here", "_law_total"], rfl, (show FnP false P wo K mg base (0 + 1) a fd _ _ from fn_ok0 T.hT false F sc_l_roll (by decide) fun cdv A outer s H E hgu hr => ?_), hm, F.kp, (F.binds fun _ _ _ _ _ _ us hl => match us, hl with | [_, _], _ => rfl)⟩
  exact (pms_cons (pms_if (pmt_gt (pm_itemO 0 T.hK pm_int) pm_int) (pms_cons (pms_set (i := 4) sc_l_roll.nd rfl (by first | exact .inl rfl | exact .inr rfl) (pm_mod (pm_int1 (by rfl) T.n_int (pma_cons (pm_itemO 0 T.hK pm_int) pma_nil)) (pm_var 1)))
      (pms_cons (pms_setItem 0 (pm_div (pm_itemO 0 T.hK pm_int) (pm_var 1)) pm_int)
      (pms_one (pms_ret (pm_var 4))))) pms_nil)
      (pms_cons (pms_setItem 0 (pm_add T.hK (pm_itemO 0 T.hK pm_int) pm_int) pm_int)
      (pms_cons (pms_set (i := 2) sc_l_roll.nd rfl (by first | exact .inl rfl | exact .inr rfl) (pm_mod (pm_int1 (by rfl) T.n_int (pma_cons (pm_add T.hK (pm_itemO 0 T.hK pm_int) (pm_mul pm_int (pm_itemO 0 T.hK pm_int))) pma_nil)) pm_int))
      (pms_cons (pms_set (i := 3) sc_l_roll.nd rfl (by first | exact .inl rfl | exact .inr rfl) (pm_add T.hK (pm_mul (pm_mod (pm_int1 (by rfl) T.n_int (pma_cons (pm_add T.hK (pm_mul (pm_var 2) (pm_var 2)) (pm_mul pm_int (pm_itemO 0 T.hK pm_int))) pma_nil)) pm_int) pm_int) (pm_var 2)))
      (pms_one (pms_ret (pm_mod (pm_int1 (by rfl) T.n_int (pma_cons (pm_div (pm_var 3) pm_int) pma_nil)) (pm_var 1))))))))
/-! ### _law_pick -/
theorem sc_l_pick : FnScope ["_law_dice_here", "_law_items"] ["_law_dice_here", "_law_items"] (defScope s_l_pick) := ⟨rfl, rfl, rfl, by decide +kernel, rfl, by decide +kernel, by decide +kernel⟩
theorem ok_l_pick (T : Tx K mg wo w) (TP : TxP P K w) : DefOk false P wo K mg base w "_law_pick" 2 2 fn_l_pick := by
  obtain ⟨a, fd, F, hm⟩ := T.f_l_pick
  have d_l_roll := ok_l_roll (P := P) (base := base) T TP
  refine ⟨a, fd, ["_law_dice_here", "_law_items"], rfl, (show FnP false P wo K mg base (1 + 1) a fd _ _ from fn_ok0 T.hT false F sc_l_pick (by decide) fun cdv A outer s H E hgu hr => ?_), hm, F.kp, (F.binds fun _ _ _ _ _ _ us hl => match us, hl with | [_, _], _ => rfl)⟩
  exact (pms_one (pms_ret (pm_item T.hK (pm_var 1) (pm_callD 0 d_l_roll (fun z => by cases z) (hr.mono (by omega)) (by rfl) (pma_cons (pm_len T.hK (by rfl) T.n_len (pma_cons (pm_var 1) pma_nil)) pma_nil) (len_cons len_nil)))))
/-! ### _law_spoilt -/
theorem sc_l_spoilt : FnScope ["_law_dice_here", "_law_parts", "_law_way", "_law_wrong"] ["_law_dice_here"] (defScope s_l_spoilt) := ⟨rfl, rfl, rfl, by decide +kernel, rfl, by decide +kernel, by decide +kernel⟩
theorem ok_l_spoilt (T : Tx K mg wo w) (TP : TxP P K w) : DefOk false P wo K mg base w "_law_spoilt" 1 3 fn_l_spoilt := by
  obtain ⟨a, fd, F, hm⟩ := T.f_l_spoilt
  have d_l_roll := ok_l_roll (P := P) (base := base) T TP
  have d_l_pick := ok_l_pick (P := P) (base := base) T TP
  refine ⟨a, fd, ["_law_dice_here"], rfl, (show FnP false P wo K mg base (2 + 1) a fd _ _ from fn_ok0 T.hT false F sc_l_spoilt (by decide) fun cdv A outer s H E hgu hr => ?_), hm, F.kp, (F.binds fun _ _ _ _ _ _ us hl => match us, hl with | [_], _ => rfl)⟩
  exact (pms_cons (pms_set (i := 1) sc_l_spoilt.nd rfl (by first | exact .inl rfl | exact .inr rfl) (pm_lst (pma_cons pm_int (pma_cons pm_int (pma_cons (pm_tup (pma_cons (pm_tup (pma_cons pm_int (pma_cons pm_int pma_nil))) (pma_cons (pm_tup (pma_cons pm_int (pma_cons pm_int pma_nil))) pma_nil))) (pma_cons (pm_tup (pma_cons (pm_tup (pma_cons pm_int (pma_cons pm_int pma_nil))) (pma_cons (pm_tup (pma_cons pm_int (pma_cons pm_int pma_nil))) pma_nil))) (pma_cons (pm_tup (pma_cons pm_int pma_nil)) pma_nil)))))))
      (pms_cons (pms_set (i := 2) sc_l_spoilt.nd rfl (by first | exact .inl rfl | exact .inr rfl) (pm_callD 0 d_l_roll (fun z => by cases z) (hr.mono (by omega)) (by rfl) (pma_cons pm_int pma_nil) (len_cons len_nil)))
      (pms_cons (pms_if (pmt_gt (pm_var 2) pm_int) (pms_one (pms_ret (pm_tup (pma_cons (pm_var 1) (pma_cons pm_bl pma_nil))))) pms_nil)
      (pms_cons (pms_if (pmt_lt (pm_var 2) pm_int) (pms_one (pms_setO (i := 3) sc_l_spoilt.nd rfl (by first | exact .inl rfl | exact .inr rfl) (pm_lst (pma_cons pm_non (pma_cons pm_bl (pma_cons pm_int (pma_cons (pm_neg pm_int) (pma_cons pm_str (pma_cons (pm_tup (pma_cons pm_int pma_nil)) (pma_cons (pm_pow pm_int pm_int) (pma_cons (pm_lst pma_nil) pma_nil))))))))))) (pms_one (pms_if (pmt_lt (pm_var 2) pm_int) (pms_cons (pms_setO (i := 3) sc_l_spoilt.nd rfl (by first | exact .inl rfl | exact .inr rfl) (pm_lst (pma_cons pm_non (pma_cons (pm_tup pma_nil) (pma_cons (pm_tup (pma_cons (pm_tup (pma_cons pm_int (pma_cons pm_int pma_nil))) pma_nil)) (pma_cons (pm_lst (pma_cons (pm_lst (pma_cons pm_int (pma_cons pm_int pma_nil))) (pma_cons (pm_lst (pma_cons pm_int (pma_cons pm_int pma_nil))) pma_nil))) (pma_cons (pm_tup (pma_cons (pm_tup (pma_cons pm_int (pma_cons pm_int pma_nil))) (pma_cons (pm_lst (pma_cons pm_int (pma_cons pm_int pma_nil))) pma_nil))) (pma_cons (pm_tup (pma_cons (pm_tup (pma_cons pm_int (pma_cons pm_int pma_nil))) (pma_cons (pm_tup (pma_cons pm_int (pma_cons pm_int pma_nil))) pma_nil))) (pma_cons (pm_tup (pma_cons (pm_tup (pma_cons pm_int (pma_cons pm_int pma_nil))) (pma_cons (pm_tup (pma_cons pm_int (pma_cons pm_bl pma_nil))) pma_nil))) pma_nil)))))))))
      (pms_cons (pms_setO (i := 3) sc_l_spoilt.nd rfl (by first | exact .inl rfl | exact .inr rfl) (pm_add T.hK (pm_give 3) (pm_lst (pma_cons (pm_tup (pma_cons (pm_tup (pma_cons pm_int (pma_cons pm_int pma_nil))) (pma_cons (pm_tup (pma_cons pm_int (pma_cons pm_int pma_nil))) (pma_cons (pm_tup (pma_cons pm_int (pma_cons pm_int pma_nil))) pma_nil)))) (pma_cons (pm_tup (pma_cons (pm_tup (pma_cons pm_int (pma_cons pm_int (pma_cons pm_int pma_nil)))) (pma_cons (pm_tup (pma_cons pm_int (pma_cons pm_int (pma_cons pm_int pma_nil)))) pma_nil))) (pma_cons pm_str (pma_cons pm_dct0 (pma_cons pm_int (pma_cons (pm_tup (pma_cons (pm_tup (pma_cons pm_int (pma_cons pm_int pma_nil))) (pma_cons (pm_tup (pma_cons pm_int (pma_cons (pm_neg pm_int) pma_nil))) pma_nil))) pma_nil)))))))))
      (pms_one (pms_expr (pm_append 3 T.hK (pma_cons (pm_tup (pma_cons (pm_tup (pma_cons pm_int (pma_cons pm_int pma_nil))) (pma_cons (pm_tup (pma_cons pm_int (pma_cons pm_non pma_nil))) pma_nil))) pma_nil)))))) (pms_one (pms_setO (i := 3) sc_l_spoilt.nd rfl (by first | exact .inl rfl | exact .inr rfl) (pm_lst (pma_cons pm_non (pma_cons (pm_lst (pma_cons pm_int pma_nil)) (pma_cons (pm_tup (pma_cons pm_int (pma_cons pm_int pma_nil))) (pma_cons (pm_tup (pma_cons pm_int (pma_cons pm_int pma_nil))) (pma_cons (pm_tup (pma_cons pm_int pma_nil)) (pma_cons (pm_tup (pma_cons pm_bl pma_nil)) (pma_cons (pm_tup (pma_cons (pm_neg pm_int) pma_nil)) (pma_cons pm_str (pma_cons pm_int (pma_cons pm_dct0 (pma_cons (pm_tup (pma_cons pm_non pma_nil)) pma_nil)))))))))))))))))
      (pms_one (pms_ret (pm_tup (pma_cons (pm_add T.hK (pm_add T.hK (pm_slice T.hK (pm_var 1) pmo_none (pmo_some (pm_var 2))) (pm_lst (pma_cons (pm_callD 0 d_l_pick (fun z => by cases z) (hr.mono (by omega)) (by rfl) (pma_cons (pm_give 3) pma_nil) (len_cons len_nil)) pma_nil))) (pm_slice T.hK (pm_var 1) (pmo_some (pm_add T.hK (pm_var 2) pm_int)) pmo_none)) (pma_cons pm_bl pma_nil)))))))))
/-! ### _law_met -/
theorem sc_l_met : FnScope ["_law_call"] ["_law_call"] (defScope s_l_met) := ⟨rfl, rfl, rfl, by decide +kernel, rfl, by decide +kernel, by decide +kernel⟩
/-! ### X:Table.__init__ -/
theorem ok_x_Table_uinitu (T : Tx K mg wo w) (TP : TxP P K w) : MkX P wo K mg base w 1 5 6 fn_x_Table_uinitu := by
  obtain ⟨a, fd, F, hm⟩ := T.f_Table_uinitu
  have d_are_right := ok_are_right (P := P) (base := base) T TP
  refine ⟨⟨a, fd, ["self", "tie", "gap", "rows", "sides", "accepted"], rfl, hm, (show FnOk P wo K mg base (L2.CX P wo) (5 + 1) a fd _ _ from init_okX T.hT F sc_Table_uinitu (by decide) fun cdv A outer s H E hr tk hpo => ?_), (F.binds fun _ _ _ _ _ _ us hl => match us, hl with | [_, _, _, _, _, _], _ => rfl)⟩⟩
  exact (pms_cons (pms_if (pmt_not (pmt_val (pm_call d_are_right (fun z => by cases z) (hr.mono (by omega)) (by rfl) (pma_cons (pm_var 1) (pma_cons (pm_var 2) (pma_cons (pm_var 3) (pma_cons (pm_var 4) (pma_cons (pm_var 5) pma_nil))))) (len_cons (len_cons (len_cons (len_cons (len_cons len_nil)))))))) (pms_one (pms_raiseE T.hK tk PySem.F.excBase_ValueError T.x0_InvalidTable (by rfl) T.c_InvalidTable)) pms_nil)
      (pms_cons (pms_fld (i := 0) (c := 1) T.hK T.st_own_tie_1 (pm_var 1))
      (pms_cons (pms_fld (i := 0) (c := 1) T.hK T.st_own_gap_1 (pm_var 2))
      (pms_cons (pms_fld (i := 0) (c := 1) T.hK T.st_own_rows_1 (pm_var 3))
      (pms_cons (pms_fld (i := 0) (c := 1) T.hK T.st_own_sides_1 (pm_var 4))
      (pms_one (pms_fld (i := 0) (c := 1) T.hK T.st_own_accepted_1 (pm_var 5))))))))
/-! ### _law_parts_right -/
theorem sc_l_parts_right : FnScope ["_law_dice_here", "_law_call", "_law_none", "_law_parts", "_law_fits"] ["_law_dice_here"] (defScope s_l_parts_right) := ⟨rfl, rfl, rfl, by decide +kernel, rfl, by decide +kernel, by decide +kernel⟩
theorem ok_l_parts_right {TT : List (Addr × Str)} (T : Tx K mg wo w) (TP : TxP P K w) (Zs : ∀ x ∈ lamN, ∃ c P, TabX K base mg TT x c P) : DefT P wo K mg base (w.wT TT) "_law_parts_right" 1 11 fn_l_parts_right := by
  obtain ⟨a, fd, F, hm⟩ := T.f_l_parts_right
  have d_l_spoilt := ok_l_spoilt (P := P) (base := base) T TP
  replace d_l_spoilt := d_l_spoilt.wT TT
  obtain ⟨_, _, F_l_met, hm_l_met⟩ := T.f_l_met
  have k_x_Table_uinitu := ok_x_Table_uinitu (P := P) (base := base) T TP
  replace k_x_Table_uinitu := k_x_Table_uinitu.wT TT
  obtain ⟨cc, PP, Z⟩ := Zs "_law_parts_right" (by decide)
  refine ⟨a, fd, ["_law_dice_here"], rfl, (show FnG P wo K mg base CX0 (10 + 1) a fd _ _ from fn_okT (Z.code a hm) F sc_l_parts_right (by decide) fun A outer s H E hgu hr => ?_), hm, F.kp, (F.binds fun _ _ _ _ _ _ us hl => match us, hl with | [_], _ => rfl)⟩
  exact (pms_cons (pms_asgG (pm_callD 0 d_l_spoilt (fun z => by cases z) (hr.mono (by omega)) (by rfl) pma_nil len_nil) (pmg_tup T.hK rfl (pmgs_cons (pmg_name (i := 3) sc_l_parts_right.nd rfl (by first | exact .inl rfl | exact .inr rfl)) (pmgs_cons (pmg_name (i := 4) sc_l_parts_right.nd rfl (by first | exact .inl rfl | exact .inr rfl)) pmgs_nil))))
      (pms_cons (pms_set (i := 1) sc_l_parts_right.nd rfl (by first | exact .inl rfl | exact .inr rfl) (pm_toldX (n := "_law_call") (L := excL) (cs := tc_l_met) (i := 0) (k := 8) T.hK F_l_met hm_l_met (by rfl) (F_l_met.binds fun _ _ _ _ _ _ us hl => match us, hl with | [_], _ => rfl) rfl sc_l_met rfl (.inl rfl) T.sys hgu (.plain rfl T.c_InvalidTable (.plain rfl T.c_InvalidBuilding (.plain rfl T.c_InvalidOperation .nil))) T.exm (by decide) rfl rfl (fun _ _ => rfl) (fun _ _ => rfl) (fun _ => rfl) Z.tab rfl Z.mem Z.uni (hr.mono (by omega)) (LamX.lamS_by (by kernel_rfl)) rfl (fun _ _ _ _ _ => rfl) (fun A outer s H E f c_ hr tk => (pm_makeX tk k_x_Table_uinitu (hr.mono (by omega)) (by rfl) T.c_Table (pma_cons (pm_item T.hK (pm_var 3) pm_int) (pma_cons (pm_item T.hK (pm_var 3) pm_int) (pma_cons (pm_item T.hK (pm_var 3) pm_int) (pma_cons (pm_item T.hK (pm_var 3) pm_int) (pma_cons (pm_item T.hK (pm_var 3) pm_int) pma_nil))))) (len_cons (len_cons (len_cons (len_cons (len_cons len_nil)))))))))
      (pms_cons (pms_set (i := 2) sc_l_parts_right.nd rfl (by first | exact .inl rfl | exact .inr rfl) (pm_toldX (n := "_law_call") (L := excL) (cs := tc_l_met) (i := 0) (k := 8) T.hK F_l_met hm_l_met (by rfl) (F_l_met.binds fun _ _ _ _ _ _ us hl => match us, hl with | [_], _ => rfl) rfl sc_l_met rfl (.inl rfl) T.sys hgu (.plain rfl T.c_InvalidTable (.plain rfl T.c_InvalidBuilding (.plain rfl T.c_InvalidOperation .nil))) T.exm (by decide) rfl rfl (fun _ _ => rfl) (fun _ _ => rfl) (fun _ => rfl) Z.tab rfl Z.mem Z.uni (hr.mono (by omega)) (LamX.lamS_by (by kernel_rfl)) rfl (fun _ _ _ _ _ => rfl) (fun A outer s H E f c_ hr tk => (pm_makeX tk k_x_Table_uinitu (hr.mono (by omega)) (by rfl) T.c_Table (pma_cons pm_int (pma_cons pm_int (pma_cons (pm_tup pma_nil) (pma_cons (pm_tup pma_nil) (pma_cons (pm_tup pma_nil) pma_nil))))) (len_cons (len_cons (len_cons (len_cons (len_cons len_nil)))))))))
      (pms_one (pms_ret (pm_eq T.hK hr (pm_lst (pma_cons (pm_var 1) (pma_cons (pm_var 2) pma_nil))) (pm_lst (pma_cons (pm_if (pmt_val (pm_var 4)) pm_str pm_str) (pma_cons pm_str pma_nil)))))))))
/-! ### Table.rows -/
theorem sc_Table_rows : FnScope ["self"] ["self"] (defScope s_Table_rows) := ⟨rfl, rfl, rfl, by decide +kernel, rfl, by decide +kernel, by decide +kernel⟩
theorem ok_Table_rows (T : Tx K mg wo w) (TP : TxP P K w) : ∃ g, PropOk w 1 "rows" g ∧ MthOk P wo K mg base w g 1 1 fn_Table_rows := by
  obtain ⟨a, fd, F, hm⟩ := T.f_Table_rows
  refine ⟨a, hm, mth_of (ps := ["self"]) (show FnP false P wo K mg base (0 + 1) a fd _ _ from fn_ok0 T.hT false F sc_Table_rows (by decide) fun cdv A outer s H E hgu hr => ?_) (F.binds fun _ _ _ _ _ _ us hl => match us, hl with | [_], _ => rfl)⟩
  exact (pms_one (pms_ret (pm_fld T.hK T.sl_own_rows (pm_var 0))))
/-! ### Building.__init__ -/
theorem sc_Building_uinitu : FnScope ["self", "word", "parts", "one", "other"] ["self", "word", "parts"] (defScope s_Building_uinitu) := ⟨rfl, rfl, rfl, by decide +kernel, rfl, by decide +kernel, by decide +kernel⟩
theorem ok_Building_uinitu (T : Tx K mg wo w) (TP : TxP P K w) : MkOk P wo K mg base w 0 2 1 fn_Building_uinitu := by
  obtain ⟨a, fd, F, hm⟩ := T.f_Building_uinitu
  refine ⟨⟨a, fd, ["self", "word", "parts"], rfl, hm, (show FnOk P wo K mg base CX0 (0 + 1) a fd _ _ from init_ok0 T.hT F sc_Building_uinitu (by decide) fun cdv A outer s H E hr => ?_), (F.binds fun _ _ _ _ _ _ us hl => match us, hl with | [_, _, _], _ => rfl)⟩⟩
  exact (pms_cons (pms_fld (i := 0) (c := 0) T.hK T.st_word_0 (pm_var 1))
      (pms_cons (pms_fld (i := 0) (c := 0) T.hK T.st_own_parts_0 (pm_var 2))
      (pms_one (pms_if (pmt_eq0 T.hK hr (pm_var 2) (pm_tup pma_nil)) (pms_one (pms_flds (i := 0) (c := 0) T.hK rfl (pm_tup (pma_cons (pm_var 1) (pma_cons (pm_tup (pma_cons (pm_var 1) pma_nil)) (pma_cons pm_int (pma_cons pm_int pma_nil))))) (pmfs_cons T.hK T.st_own_text_0 (pmfs_cons T.hK T.st_own_leaves_0 (pmfs_cons T.hK T.st_own_size_0 (pmfs_cons T.hK T.st_own_many_0 pmfs_nil)))))) (pms_cons (pms_asgG (pm_var 2) (pmg_tup T.hK rfl (pmgs_cons (pmg_name (i := 3) sc_Building_uinitu.nd rfl (by first | exact .inl rfl | exact .inr rfl)) (pmgs_cons (pmg_name (i := 4) sc_Building_uinitu.nd rfl (by first | exact .inl rfl | exact .inr rfl)) pmgs_nil))))
      (pms_cons (pms_fld (i := 0) (c := 0) T.hK T.st_own_text_0 (pm_joined (pmj_cons pm_str (pmj_cons (pm_fmt (pm_fld T.hK T.sl_own_text (pm_var 3))) (pmj_cons (pm_fmt (pm_kd T.t_SIGNS (by rfl) (pm_var 1))) (pmj_cons (pm_fmt (pm_fld T.hK T.sl_own_text (pm_var 4))) (pmj_cons pm_str pmj_nil)))))))
      (pms_cons (pms_fld (i := 0) (c := 0) T.hK T.st_own_leaves_0 (pm_tup (pma_star T.hK (pm_fld T.hK T.sl_own_leaves (pm_var 3)) (pma_star T.hK (pm_fld T.hK T.sl_own_leaves (pm_var 4)) pma_nil))))
      (pms_cons (pms_fld (i := 0) (c := 0) T.hK T.st_own_size_0 (pm_add T.hK (pm_fld T.hK T.sl_own_size (pm_var 3)) (pm_fld T.hK T.sl_own_size (pm_var 4))))
      (pms_one (pms_fld (i := 0) (c := 0) T.hK T.st_own_many_0 (pm_sub (pm_add T.hK (pm_fld T.hK T.sl_own_many (pm_var 3)) (pm_fld T.hK T.sl_own_many (pm_var 4))) (pm_kd T.t_LOST (by rfl) (pm_var 1)))))))))))))
/-! ### Building.tie -/
theorem sc_Building_tie : FnScope ["cls"] ["cls"] (defScope s_Building_tie) := ⟨rfl, rfl, rfl, by decide +kernel, rfl, by decide +kernel, by decide +kernel⟩
theorem ok_Building_tie (T : Tx K mg wo w) (TP : TxP P K w) : ∃ g, CmOk w 0 "tie" g ∧ MthOk P wo K mg base w g 1 3 fn_Building_tie := by
  obtain ⟨a, fd, F, hm⟩ := T.f_Building_tie
  have k_Building_uinitu := ok_Building_uinitu (P := P) (base := base) T TP
  obtain ⟨_, i_TIE⟩ := T.i_TIE
  refine ⟨a, hm, mth_of (ps := ["cls"]) (show FnP false P wo K mg base (2 + 1) a fd _ _ from fn_ok0 T.hT false F sc_Building_tie (by decide) fun cdv A outer s H E hgu hr => ?_) (F.binds fun _ _ _ _ _ _ us hl => match us, hl with | [_], _ => rfl)⟩
  exact (pms_one (pms_ret (pm_makeL (i := 0) k_Building_uinitu (hr.mono (by omega)) (pma_cons (pm_gstr (by rfl) i_TIE) (pma_cons (pm_tup pma_nil) pma_nil)) (len_cons (len_cons len_nil)))))
/-! ### X:require_building -/
theorem sc_require_building : FnScope ["value"] ["value"] (defScope s_require_building) := ⟨rfl, rfl, rfl, by decide +kernel, rfl, by decide +kernel, by decide +kernel⟩
theorem ok_x_require_building (T : Tx K mg wo w) (TP : TxP P K w) : DefX P wo K mg base w "require_building" 1 2 fn_x_require_building := by
  obtain ⟨a, fd, F, hm⟩ := T.f_require_building
  refine ⟨a, fd, ["value"], rfl, (show FnOk P wo K mg base (L2.CX P wo) (1 + 1) a fd _ _ from fn_okX T.hT F sc_require_building (by decide) fun cdv A outer s H E hr tk hpo => ?_), hm, F.kp, (F.binds fun _ _ _ _ _ _ us hl => match us, hl with | [_], _ => rfl)⟩
  exact (pms_one (pms_if (pmt_not (pmt_val (pm_isiC T.hK T.cok T.isi_Building (by rfl) T.n_isinstance (by rfl) T.c_Building (pm_var 0)))) (pms_one (pms_raiseE T.hK tk PySem.F.excBase_ValueError T.x0_InvalidBuilding (by rfl) T.c_InvalidBuilding)) pms_nil))
/-! ### Building.parts -/
theorem sc_Building_parts : FnScope ["self"] ["self"] (defScope s_Building_parts) := ⟨rfl, rfl, rfl, by decide +kernel, rfl, by decide +kernel, by decide +kernel⟩
theorem ok_Building_parts (T : Tx K mg wo w) (TP : TxP P K w) : ∃ g, PropOk w 0 "parts" g ∧ MthOk P wo K mg base w g 1 1 fn_Building_parts := by
  obtain ⟨a, fd, F, hm⟩ := T.f_Building_parts
  refine ⟨a, hm, mth_of (ps := ["self"]) (show FnP false P wo K mg base (0 + 1) a fd _ _ from fn_ok0 T.hT false F sc_Building_parts (by decide) fun cdv A outer s H E hgu hr => ?_) (F.binds fun _ _ _ _ _ _ us hl => match us, hl with | [_], _ => rfl)⟩
  exact (pms_one (pms_ret (pm_fld T.hK T.sl_own_parts (pm_var 0))))
/-! ### state_in -/
theorem sc_state_in : FnScope ["table", "building", "lines", "one", "other"] ["table", "building"] (defScope s_state_in) := ⟨rfl, rfl, rfl, by decide +kernel, rfl, by decide +kernel, by decide +kernel⟩
theorem ok_state_in (T : Tx K mg wo w) (TP : TxP P K w) : ∀ n, DefOk false P wo K mg base w "state_in" 2 (n + 3) (fn_state_in n)
  | 0 => by
    obtain ⟨a, fd, F, hm⟩ := T.f_state_in
    exact (def_zero false (a := a) (fd := fd) (ps := ["table", "building"]) (fun _ _ => rfl) rfl hm F.kp (F.binds fun _ _ _ _ _ _ us hl => match us, hl with | [_, _], _ => rfl)).mono (by omega)
  | n + 1 => by
    have d_state_in := ok_state_in T TP n
    obtain ⟨a, fd, F, hm⟩ := T.f_state_in
    obtain ⟨_, g_Building_parts, m_Building_parts⟩ := ok_Building_parts (P := P) (base := base) T TP
    obtain ⟨_, i_ROW⟩ := T.i_ROW
    obtain ⟨_, i_TIE⟩ := T.i_TIE
    refine ⟨a, fd, ["table", "building"], rfl, (show FnP false P wo K mg base (n + 3 + 1) a fd _ _ from fn_ok0 T.hT false F sc_state_in (by decide) fun cdv A outer s H E hgu hr => ?_), hm, F.kp, (F.binds fun _ _ _ _ _ _ us hl => match us, hl with | [_, _], _ => rfl)⟩
    exact (pms_cons (pms_if (pmt_eq0 T.hK hr (pm_prop T.hK g_Building_parts m_Building_parts (hr.mono (by omega)) (pm_var 1)) (pm_tup pma_nil)) (pms_one (pms_ret (pm_if (pmt_eq T.hK hr (pm_fld T.hK T.sl_word (pm_var 1)) (pm_gstr (by rfl) i_TIE)) (pm_fld T.hK T.sl_own_tie (pm_var 0)) (pm_fld T.hK T.sl_own_gap (pm_var 0))))) pms_nil)
      (pms_cons (pms_asgG (pm_prop T.hK g_Building_parts m_Building_parts (hr.mono (by omega)) (pm_var 1)) (pmg_tup T.hK rfl (pmgs_cons (pmg_name (i := 3) sc_state_in.nd rfl (by first | exact .inl rfl | exact .inr rfl)) (pmgs_cons (pmg_name (i := 4) sc_state_in.nd rfl (by first | exact .inl rfl | exact .inr rfl)) pmgs_nil))))
      (pms_cons (pms_set (i := 2) sc_state_in.nd rfl (by first | exact .inl rfl | exact .inr rfl) (pm_if (pmt_eq T.hK hr (pm_fld T.hK T.sl_word (pm_var 1)) (pm_gstr (by rfl) i_ROW)) (pm_fld T.hK T.sl_own_rows (pm_var 0)) (pm_fld T.hK T.sl_own_sides (pm_var 0))))
      (pms_one (pms_ret (pm_item T.hK (pm_item T.hK (pm_var 2) (pm_call d_state_in (fun z => by cases z) (hr.mono (by omega)) (by rfl) (pma_cons (pm_var 0) (pma_cons (pm_var 3) pma_nil)) (len_cons (len_cons len_nil)))) (pm_call d_state_in (fun z => by cases z) (hr.mono (by omega)) (by rfl) (pma_cons (pm_var 0) (pma_cons (pm_var 4) pma_nil)) (len_cons (len_cons len_nil)))))))))
/-! ### X:Table.state_of -/
theorem sc_Table_state_of : FnScope ["self", "building"] ["self", "building"] (defScope s_Table_state_of) := ⟨rfl, rfl, rfl, by decide +kernel, rfl, by decide +kernel, by decide +kernel⟩
theorem ok_x_Table_state_of (T : Tx K mg wo w) (TP : TxP P K w) : ∃ g, MethOk w 1 "state_of" g ∧ MthX P wo K mg base w g 2 12 fn_x_Table_state_of := by
  obtain ⟨a, fd, F, hm⟩ := T.f_Table_state_of
  have d_x_require_building := ok_x_require_building (P := P) (base := base) T TP
  have d_state_in := ok_state_in (P := P) (base := base) T TP 8
  refine ⟨a, hm, mth_ofX (ps := ["self", "building"]) (show FnOk P wo K mg base (L2.CX P wo) (11 + 1) a fd _ _ from fn_okX T.hT F sc_Table_state_of (by decide) fun cdv A outer s H E hr tk hpo => ?_) (F.binds fun _ _ _ _ _ _ us hl => match us, hl with | [_, _], _ => rfl)⟩
  exact (pms_cons (pms_expr (pm_callX tk d_x_require_building (hr.mono (by omega)) (by rfl) (pma_cons (pm_var 1) pma_nil) (len_cons len_nil)))
      (pms_one (pms_ret (pm_call d_state_in (fun z => by cases z) (hr.mono (by omega)) (by rfl) (pma_cons (pm_var 0) (pma_cons (pm_var 1) pma_nil)) (len_cons (len_cons len_nil))))))
/-! ### X:Table.accepts -/
theorem sc_Table_accepts : FnScope ["self", "building"] ["self", "building"] (defScope s_Table_accepts) := ⟨rfl, rfl, rfl, by decide +kernel, rfl, by decide +kernel, by decide +kernel⟩
theorem ok_x_Table_accepts (T : Tx K mg wo w) (TP : TxP P K w) : ∃ g, MethOk w 1 "accepts" g ∧ MthX P wo K mg base w g 2 12 fn_x_Table_accepts := by
  obtain ⟨a, fd, F, hm⟩ := T.f_Table_accepts
  have d_x_require_building := ok_x_require_building (P := P) (base := base) T TP
  have d_state_in := ok_state_in (P := P) (base := base) T TP 8
  refine ⟨a, hm, mth_ofX (ps := ["self", "building"]) (show FnOk P wo K mg base (L2.CX P wo) (11 + 1) a fd _ _ from fn_okX T.hT F sc_Table_accepts (by decide) fun cdv A outer s H E hr tk hpo => ?_) (F.binds fun _ _ _ _ _ _ us hl => match us, hl with | [_, _], _ => rfl)⟩
  exact (pms_cons (pms_expr (pm_callX tk d_x_require_building (hr.mono (by omega)) (by rfl) (pma_cons (pm_var 1) pma_nil) (len_cons len_nil)))
      (pms_one (pms_ret (pm_inA T.hK hr (pm_call d_state_in (fun z => by cases z) (hr.mono (by omega)) (by rfl) (pma_cons (pm_var 0) (pma_cons (pm_var 1) pma_nil)) (len_cons (len_cons len_nil))) (pm_fld T.hK T.sl_own_accepted (pm_var 0))))))
/-! ### table_by -/
theorem sc_table_by : FnScope ["parts", "tie", "gap", "rows", "sides", "accepted"] ["parts"] (defScope s_table_by) := ⟨rfl, rfl, rfl, by decide +kernel, rfl, by decide +kernel, by decide +kernel⟩
theorem ok_table_by (T : Tx K mg wo w) (TP : TxP P K w) : DefOk false P wo K mg base w "table_by" 1 8 fn_table_by := by
  obtain ⟨a, fd, F, hm⟩ := T.f_table_by
  have k_Table_uinitu := ok_Table_uinitu (P := P) (base := base) T TP
  refine ⟨a, fd, ["parts"], rfl, (show FnP false P wo K mg base (7 + 1) a fd _ _ from fn_ok0 T.hT false F sc_table_by (by decide) fun cdv A outer s H E hgu hr => ?_), hm, F.kp, (F.binds fun _ _ _ _ _ _ us hl => match us, hl with | [_], _ => rfl)⟩
  exact (pms_cons (pms_asgG (pm_var 0) (pmg_tup T.hK rfl (pmgs_cons (pmg_name (i := 1) sc_table_by.nd rfl (by first | exact .inl rfl | exact .inr rfl)) (pmgs_cons (pmg_name (i := 2) sc_table_by.nd rfl (by first | exact .inl rfl | exact .inr rfl)) (pmgs_cons (pmg_name (i := 3) sc_table_by.nd rfl (by first | exact .inl rfl | exact .inr rfl)) (pmgs_cons (pmg_name (i := 4) sc_table_by.nd rfl (by first | exact .inl rfl | exact .inr rfl)) (pmgs_cons (pmg_name (i := 5) sc_table_by.nd rfl (by first | exact .inl rfl | exact .inr rfl)) pmgs_nil)))))))
      (pms_one (pms_ret (pm_make k_Table_uinitu (hr.mono (by omega)) (by rfl) T.c_Table (pma_cons (pm_var 1) (pma_cons (pm_var 2) (pma_cons (pm_var 3) (pma_cons (pm_var 4) (pma_cons (pm_var 5) pma_nil))))) (len_cons (len_cons (len_cons (len_cons (len_cons len_nil)))))))))
/-! ### renumbered_parts -/
theorem sc_renumbered_parts : FnScope ["parts", "order", "numbers", "new_rows", "new_sides", "kept", "tie", "gap", "rows", "sides", "accepted", "number", "state", "one", "other"] ["parts", "order"] (defScope s_renumbered_parts) := ⟨rfl, rfl, rfl, by decide +kernel, rfl, by decide +kernel, by decide +kernel⟩
theorem ok_renumbered_parts (T : Tx K mg wo w) (TP : TxP P K w) : DefOk false P wo K mg base w "renumbered_parts" 2 1 fn_renumbered_parts := by
  obtain ⟨a, fd, F, hm⟩ := T.f_renumbered_parts
  refine ⟨a, fd, ["parts", "order"], rfl, (show FnP false P wo K mg base (0 + 1) a fd _ _ from fn_ok0 T.hT false F sc_renumbered_parts (by decide) fun cdv A outer s H E hgu hr => ?_), hm, F.kp, (F.binds fun _ _ _ _ _ _ us hl => match us, hl with | [_, _], _ => rfl)⟩
  exact (pms_cons (pms_asgG (pm_var 0) (pmg_tup T.hK rfl (pmgs_cons (pmg_name (i := 6) sc_renumbered_parts.nd rfl (by first | exact .inl rfl | exact .inr rfl)) (pmgs_cons (pmg_name (i := 7) sc_renumbered_parts.nd rfl (by first | exact .inl rfl | exact .inr rfl)) (pmgs_cons (pmg_name (i := 8) sc_renumbered_parts.nd rfl (by first | exact .inl rfl | exact .inr rfl)) (pmgs_cons (pmg_name (i := 9) sc_renumbered_parts.nd rfl (by first | exact .inl rfl | exact .inr rfl)) (pmgs_cons (pmg_name (i := 10) sc_renumbered_parts.nd rfl (by first | exact .inl rfl | exact .inr rfl)) pmgs_nil)))))))
      (pms_cons (pms_set (i := 2) sc_renumbered_parts.nd rfl (by first | exact .inl rfl | exact .inr rfl) (pm_dc (own := [("number", 11), ("state", 12)]) rfl sc_renumbered_parts.nd (pmi_enumL T.hK (by rfl) T.n_enumerate (pma_cons (pm_var 1) pma_nil)) (blkOk_by (by kernel_rfl)) (by decide) (fun _ _ _ _ _ => (pmg_tup T.hK rfl (pmgs_cons (pmg_name (i := 11) sc_renumbered_parts.nd rfl (by first | exact .inl rfl | exact .inr rfl)) (pmgs_cons (pmg_name (i := 12) sc_renumbered_parts.nd rfl (by first | exact .inl rfl | exact .inr rfl)) pmgs_nil)))) (fun _ _ _ _ _ => pmts_nil) (fun _ _ _ _ _ => (pm_var 12)) (fun _ _ _ _ _ => (pm_var 11))))
      (pms_cons (pms_set (i := 3) sc_renumbered_parts.nd rfl (by first | exact .inl rfl | exact .inr rfl) (pm_tuple T.hK (by rfl) T.n_tuple (pma_cons (pm_lc (own := [("one", 13)]) rfl sc_renumbered_parts.nd (pmi_list T.hK (pm_var 1)) (blkOk_by (by kernel_rfl)) (by decide) (fun _ _ _ _ _ => (pmg_name (i := 13) sc_renumbered_parts.nd rfl (by first | exact .inl rfl | exact .inr rfl))) (fun _ _ _ _ _ => pmts_nil) (fun _ _ _ _ _ => (pm_tuple T.hK (by rfl) T.n_tuple (pma_cons (pm_lc (own := [("other", 14)]) rfl sc_renumbered_parts.nd (pmi_list T.hK (pm_var 1)) (blkOk_by (by kernel_rfl)) (by decide) (fun _ _ _ _ _ => (pmg_name (i := 14) sc_renumbered_parts.nd rfl (by first | exact .inl rfl | exact .inr rfl))) (fun _ _ _ _ _ => pmts_nil) (fun _ _ _ _ _ => (pm_getK T.hK T.hW hr (pm_var 2) (pm_item T.hK (pm_item T.hK (pm_var 8) (pm_var 13)) (pm_var 14))))) pma_nil)))) pma_nil)))
      (pms_cons (pms_set (i := 4) sc_renumbered_parts.nd rfl (by first | exact .inl rfl | exact .inr rfl) (pm_tuple T.hK (by rfl) T.n_tuple (pma_cons (pm_lc (own := [("one", 13)]) rfl sc_renumbered_parts.nd (pmi_list T.hK (pm_var 1)) (blkOk_by (by kernel_rfl)) (by decide) (fun _ _ _ _ _ => (pmg_name (i := 13) sc_renumbered_parts.nd rfl (by first | exact .inl rfl | exact .inr rfl))) (fun _ _ _ _ _ => pmts_nil) (fun _ _ _ _ _ => (pm_tuple T.hK (by rfl) T.n_tuple (pma_cons (pm_lc (own := [("other", 14)]) rfl sc_renumbered_parts.nd (pmi_list T.hK (pm_var 1)) (blkOk_by (by kernel_rfl)) (by decide) (fun _ _ _ _ _ => (pmg_name (i := 14) sc_renumbered_parts.nd rfl (by first | exact .inl rfl | exact .inr rfl))) (fun _ _ _ _ _ => pmts_nil) (fun _ _ _ _ _ => (pm_getK T.hK T.hW hr (pm_var 2) (pm_item T.hK (pm_item T.hK (pm_var 9) (pm_var 13)) (pm_var 14))))) pma_nil)))) pma_nil)))
      (pms_cons (pms_set (i := 5) sc_renumbered_parts.nd rfl (by first | exact .inl rfl | exact .inr rfl) (pm_tuple T.hK (by rfl) T.n_tuple (pma_cons (pm_sortI T.hK (by rfl) T.n_sorted (pma_cons (pm_lc (own := [("state", 12)]) rfl sc_renumbered_parts.nd (pmi_seq T.hK (pm_var 10)) (blkOk_by (by kernel_rfl)) (by decide) (fun _ _ _ _ _ => (pmg_name (i := 12) sc_renumbered_parts.nd rfl (by first | exact .inl rfl | exact .inr rfl))) (fun _ _ _ _ _ => (pmts_one (pmt_inK T.hK T.hW hr (pm_var 12) (pm_var 2)))) (fun _ _ _ _ _ => (pm_getK T.hK T.hW hr (pm_var 2) (pm_var 12)))) pma_nil)) pma_nil)))
      (pms_one (pms_ret (pm_tup (pma_cons (pm_getK T.hK T.hW hr (pm_var 2) (pm_var 6)) (pma_cons (pm_getK T.hK T.hW hr (pm_var 2) (pm_var 7)) (pma_cons (pm_var 3) (pma_cons (pm_var 4) (pma_cons (pm_var 5) pma_nil)))))))))))))
/-! ### five_of -/
theorem sc_five_of : FnScope ["table"] ["table"] (defScope s_five_of) := ⟨rfl, rfl, rfl, by decide +kernel, rfl, by decide +kernel, by decide +kernel⟩
theorem ok_five_of (T : Tx K mg wo w) (TP : TxP P K w) : DefOk false P wo K mg base w "five_of" 1 1 fn_five_of := by
  obtain ⟨a, fd, F, hm⟩ := T.f_five_of
  refine ⟨a, fd, ["table"], rfl, (show FnP false P wo K mg base (0 + 1) a fd _ _ from fn_ok0 T.hT false F sc_five_of (by decide) fun cdv A outer s H E hgu hr => ?_), hm, F.kp, (F.binds fun _ _ _ _ _ _ us hl => match us, hl with | [_], _ => rfl)⟩
  exact (pms_one (pms_ret (pm_tup (pma_cons (pm_fld T.hK T.sl_own_tie (pm_var 0)) (pma_cons (pm_fld T.hK T.sl_own_gap (pm_var 0)) (pma_cons (pm_fld T.hK T.sl_own_rows (pm_var 0)) (pma_cons (pm_fld T.hK T.sl_own_sides (pm_var 0)) (pma_cons (pm_fld T.hK T.sl_own_accepted (pm_var 0)) pma_nil))))))))
/-! ### X:Table.renumbered -/
theorem sc_Table_renumbered : FnScope ["self", "order", "many", "state"] ["self", "order"] (defScope s_Table_renumbered) := ⟨rfl, rfl, rfl, by decide +kernel, rfl, by decide +kernel, by decide +kernel⟩
theorem ok_x_Table_renumbered (T : Tx K mg wo w) (TP : TxP P K w) : ∃ g, MethOk w 1 "renumbered" g ∧ MthX P wo K mg base w g 2 9 fn_x_Table_renumbered := by
  obtain ⟨a, fd, F, hm⟩ := T.f_Table_renumbered
  have d_is_state := ok_is_state (P := P) (base := base) T TP
  have d_table_by := ok_table_by (P := P) (base := base) T TP
  have d_renumbered_parts := ok_renumbered_parts (P := P) (base := base) T TP
  have d_five_of := ok_five_of (P := P) (base := base) T TP
  refine ⟨a, hm, mth_ofX (ps := ["self", "order"]) (show FnOk P wo K mg base (L2.CX P wo) (8 + 1) a fd _ _ from fn_okX T.hT F sc_Table_renumbered (by decide) fun cdv A outer s H E hr tk hpo => ?_) (F.binds fun _ _ _ _ _ _ us hl => match us, hl with | [_, _], _ => rfl)⟩
  exact (pms_cons (pms_set (i := 2) sc_Table_renumbered.nd rfl (by first | exact .inl rfl | exact .inr rfl) (pm_len T.hK (by rfl) T.n_len (pma_cons (pm_fld T.hK T.sl_own_rows (pm_var 0)) pma_nil)))
      (pms_cons (pms_if (PMW.pt (pmw_or (pmt_not (pmt_val (pm_isiB T.hK T.cok T.isi_tuple (by rfl) T.n_isinstance (by rfl) T.n_tuple rfl (pm_var 1)))) (pmw_or (pmt_ne T.hK hr (pm_len T.hK (by rfl) T.n_len (pma_cons (pm_var 1) pma_nil)) (pm_var 2)) (pmw_or1 (pmt_not (pmt_val (pm_all T.hK rfl (by rfl) T.n_all (pma_cons (pm_lc (own := [("state", 3)]) rfl sc_Table_renumbered.nd (pmi_tup T.hK (pm_var 1)) (blkOk_by (by kernel_rfl)) (by decide) (fun _ _ _ _ _ => (pmg_name (i := 3) sc_Table_renumbered.nd rfl (by first | exact .inl rfl | exact .inr rfl))) (fun _ _ _ _ _ => pmts_nil) (fun _ _ _ _ _ => (pm_call d_is_state (fun z => by cases z) (hr.mono (by omega)) (by rfl) (pma_cons (pm_var 2) (pma_cons (pm_var 3) pma_nil)) (len_cons (len_cons len_nil))))) pma_nil)))))))) (pms_one (pms_raiseE T.hK tk PySem.F.excBase_ValueError T.x0_InvalidOperation (by rfl) T.c_InvalidOperation)) pms_nil)
      (pms_cons (pms_if (pmt_ne T.hK hr (pm_lenSetI T.hK (by rfl) T.n_len (by rfl) T.n_set (pma_cons (pm_var 1) pma_nil)) (pm_var 2)) (pms_one (pms_raiseE T.hK tk PySem.F.excBase_ValueError T.x0_InvalidOperation (by rfl) T.c_InvalidOperation)) pms_nil)
      (pms_one (pms_ret (pm_call d_table_by (fun z => by cases z) (hr.mono (by omega)) (by rfl) (pma_cons (pm_call d_renumbered_parts (fun z => by cases z) (hr.mono (by omega)) (by rfl) (pma_cons (pm_call d_five_of (fun z => by cases z) (hr.mono (by omega)) (by rfl) (pma_cons (pm_var 0) pma_nil) (len_cons len_nil)) (pma_cons (pm_list T.hK (by rfl) T.n_list (pma_cons (pm_var 1) pma_nil)) pma_nil)) (len_cons (len_cons len_nil))) pma_nil) (len_cons len_nil)))))))
/-! ### X:Table.with_accepted -/
theorem sc_Table_with_accepted : FnScope ["self", "accepted"] ["self", "accepted"] (defScope s_Table_with_accepted) := ⟨rfl, rfl, rfl, by decide +kernel, rfl, by decide +kernel, by decide +kernel⟩
theorem ok_x_Table_with_accepted (T : Tx K mg wo w) (TP : TxP P K w) : ∃ g, MethOk w 1 "with_accepted" g ∧ MthX P wo K mg base w g 2 8 fn_x_Table_with_accepted := by
  obtain ⟨a, fd, F, hm⟩ := T.f_Table_with_accepted
  have d_are_states := ok_are_states (P := P) (base := base) T TP
  have k_Table_uinitu := ok_Table_uinitu (P := P) (base := base) T TP
  refine ⟨a, hm, mth_ofX (ps := ["self", "accepted"]) (show FnOk P wo K mg base (L2.CX P wo) (7 + 1) a fd _ _ from fn_okX T.hT F sc_Table_with_accepted (by decide) fun cdv A outer s H E hr tk hpo => ?_) (F.binds fun _ _ _ _ _ _ us hl => match us, hl with | [_, _], _ => rfl)⟩
  exact (pms_cons (pms_if (pmt_not (pmt_val (pm_call d_are_states (fun z => by cases z) (hr.mono (by omega)) (by rfl) (pma_cons (pm_len T.hK (by rfl) T.n_len (pma_cons (pm_fld T.hK T.sl_own_rows (pm_var 0)) pma_nil)) (pma_cons (pm_var 1) pma_nil)) (len_cons (len_cons len_nil))))) (pms_one (pms_raiseE T.hK tk PySem.F.excBase_ValueError T.x0_InvalidOperation (by rfl) T.c_InvalidOperation)) pms_nil)
      (pms_one (pms_ret (pm_make k_Table_uinitu (hr.mono (by omega)) (by rfl) T.c_Table (pma_cons (pm_fld T.hK T.sl_own_tie (pm_var 0)) (pma_cons (pm_fld T.hK T.sl_own_gap (pm_var 0)) (pma_cons (pm_fld T.hK T.sl_own_rows (pm_var 0)) (pma_cons (pm_fld T.hK T.sl_own_sides (pm_var 0)) (pma_cons (pm_var 1) pma_nil))))) (len_cons (len_cons (len_cons (len_cons (len_cons len_nil)))))))))
/-! ### X:require_table -/
theorem sc_require_table : FnScope ["value"] ["value"] (defScope s_require_table) := ⟨rfl, rfl, rfl, by decide +kernel, rfl, by decide +kernel, by decide +kernel⟩
theorem ok_x_require_table (T : Tx K mg wo w) (TP : TxP P K w) : DefX P wo K mg base w "require_table" 1 2 fn_x_require_table := by
  obtain ⟨a, fd, F, hm⟩ := T.f_require_table
  refine ⟨a, fd, ["value"], rfl, (show FnOk P wo K mg base (L2.CX P wo) (1 + 1) a fd _ _ from fn_okX T.hT F sc_require_table (by decide) fun cdv A outer s H E hr tk hpo => ?_), hm, F.kp, (F.binds fun _ _ _ _ _ _ us hl => match us, hl with | [_], _ => rfl)⟩
  exact (pms_one (pms_if (pmt_not (pmt_val (pm_isiC T.hK T.cok T.isi_Table (by rfl) T.n_isinstance (by rfl) T.c_Table (pm_var 0)))) (pms_one (pms_raiseE T.hK tk PySem.F.excBase_ValueError T.x0_InvalidTable (by rfl) T.c_InvalidTable)) pms_nil))
/-! ### results_of -/
theorem sc_results_of : FnScope ["rows", "sides", "one", "other"] ["rows", "sides", "one", "other"] (defScope s_results_of) := ⟨rfl, rfl, rfl, by decide +kernel, rfl, by decide +kernel, by decide +kernel⟩
theorem ok_results_of (T : Tx K mg wo w) (TP : TxP P K w) : DefOk false P wo K mg base w "results_of" 4 1 fn_results_of := by
  obtain ⟨a, fd, F, hm⟩ := T.f_results_of
  refine ⟨a, fd, ["rows", "sides", "one", "other"], rfl, (show FnP false P wo K mg base (0 + 1) a fd _ _ from fn_ok0 T.hT false F sc_results_of (by decide) fun cdv A outer s H E hgu hr => ?_), hm, F.kp, (F.binds fun _ _ _ _ _ _ us hl => match us, hl with | [_, _, _, _], _ => rfl)⟩
  exact (pms_one (pms_ret (pm_tup (pma_cons (pm_item T.hK (pm_item T.hK (pm_var 0) (pm_var 2)) (pm_var 3)) (pma_cons (pm_item T.hK (pm_item T.hK (pm_var 0) (pm_var 3)) (pm_var 2)) (pma_cons (pm_item T.hK (pm_item T.hK (pm_var 1) (pm_var 2)) (pm_var 3)) (pma_cons (pm_item T.hK (pm_item T.hK (pm_var 1) (pm_var 3)) (pm_var 2)) pma_nil)))))))
/-! ### met_pairs -/
theorem sc_met_pairs : FnScope ["one", "other", "order", "known", "at", "first", "second", "a", "b", "pair"] ["one", "other"] (defScope s_met_pairs) := ⟨rfl, rfl, rfl, by decide +kernel, rfl, by decide +kernel, by decide +kernel⟩
theorem ok_met_pairs (T : Tx K mg wo w) (TP : TxP P K w) : DefOk false P wo K mg base w "met_pairs" 2 2 fn_met_pairs := by
  obtain ⟨a, fd, F, hm⟩ := T.f_met_pairs
  have d_results_of := ok_results_of (P := P) (base := base) T TP
  refine ⟨a, fd, ["one", "other"], rfl, (show FnP false P wo K mg base (1 + 1) a fd _ _ from fn_ok0 T.hT false F sc_met_pairs (by decide) fun cdv A outer s H E hgu hr => ?_), hm, F.kp, (F.binds fun _ _ _ _ _ _ us hl => match us, hl with | [_, _], _ => rfl)⟩
  exact (pms_cons (pms_setO (i := 2) sc_met_pairs.nd rfl (by first | exact .inl rfl | exact .inr rfl) (pm_lst (pma_cons (pm_tup (pma_cons (pm_item T.hK (pm_var 0) pm_int) (pma_cons (pm_item T.hK (pm_var 1) pm_int) pma_nil))) pma_nil)))
      (pms_cons (pms_setN (i := 3) sc_met_pairs.nd rfl (by first | exact .inl rfl | exact .inr rfl) (pm_dispN T.hK T.hW hr (pm_tup (pma_cons (pm_item T.hK (pm_var 0) pm_int) (pma_cons (pm_item T.hK (pm_var 1) pm_int) pma_nil))) pm_bl))
      (pms_cons (pms_if (pmt_notInKO 3 T.hK T.hW hr (pm_tup (pma_cons (pm_item T.hK (pm_var 0) pm_int) (pma_cons (pm_item T.hK (pm_var 1) pm_int) pma_nil)))) (pms_cons (pms_expr (pm_append 2 T.hK (pma_cons (pm_tup (pma_cons (pm_item T.hK (pm_var 0) pm_int) (pma_cons (pm_item T.hK (pm_var 1) pm_int) pma_nil))) pma_nil)))
      (pms_one (pms_setKeyN 3 T.hK T.hW hr pm_bl (pm_tup (pma_cons (pm_item T.hK (pm_var 0) pm_int) (pma_cons (pm_item T.hK (pm_var 1) pm_int) pma_nil)))))) pms_nil)
      (pms_cons (pms_set (i := 4) sc_met_pairs.nd rfl (by first | exact .inl rfl | exact .inr rfl) pm_int)
      (pms_cons (pms_while 1000 PassesOwn.never (pmt_lt (pm_var 4) (pm_lenO 2 T.hK (by rfl) T.n_len)) (pms_cons (pms_asgG (pm_itemO 2 T.hK (pm_var 4)) (pmg_tup T.hK rfl (pmgs_cons (pmg_name (i := 5) sc_met_pairs.nd rfl (by first | exact .inl rfl | exact .inr rfl)) (pmgs_cons (pmg_name (i := 6) sc_met_pairs.nd rfl (by first | exact .inl rfl | exact .inr rfl)) pmgs_nil))))
      (pms_cons (pms_for PassesOwn.never rfl (pmi_list T.hK (pm_slO 2 T.hK pmo_none (pmo_some (pm_add T.hK (pm_var 4) pm_int)))) (pmg_tup T.hK rfl (pmgs_cons (pmg_name (i := 7) sc_met_pairs.nd rfl (by first | exact .inl rfl | exact .inr rfl)) (pmgs_cons (pmg_name (i := 8) sc_met_pairs.nd rfl (by first | exact .inl rfl | exact .inr rfl)) pmgs_nil))) (pms_one (pms_for PassesOwn.never rfl (pmi_zipN T.hK (by rfl) T.n_zip (pma_cons (pm_call d_results_of (fun z => by cases z) (hr.mono (by omega)) (by rfl) (pma_cons (pm_item T.hK (pm_var 0) pm_int) (pma_cons (pm_item T.hK (pm_var 0) pm_int) (pma_cons (pm_var 7) (pma_cons (pm_var 5) pma_nil)))) (len_cons (len_cons (len_cons (len_cons len_nil))))) (pma_cons (pm_call d_results_of (fun z => by cases z) (hr.mono (by omega)) (by rfl) (pma_cons (pm_item T.hK (pm_var 1) pm_int) (pma_cons (pm_item T.hK (pm_var 1) pm_int) (pma_cons (pm_var 8) (pma_cons (pm_var 6) pma_nil)))) (len_cons (len_cons (len_cons (len_cons len_nil))))) pma_nil))) (pmg_name (i := 9) sc_met_pairs.nd rfl (by first | exact .inl rfl | exact .inr rfl)) (pms_one (pms_if (pmt_notInKO 3 T.hK T.hW hr (pm_var 9)) (pms_cons (pms_setKeyN 3 T.hK T.hW hr pm_bl (pm_var 9))
      (pms_one (pms_expr (pm_append 2 T.hK (pma_cons (pm_var 9) pma_nil))))) pms_nil)))))
      (pms_one (pms_aug (i := 4) sc_met_pairs.nd rfl (by first | exact .inl rfl | exact .inr rfl) pm_int)))))
      (pms_one (pms_retO 2)))))))
/-! ### is_kept -/
theorem sc_is_kept : FnScope ["word", "first", "second"] ["word", "first", "second"] (defScope s_is_kept) := ⟨rfl, rfl, rfl, by decide +kernel, rfl, by decide +kernel, by decide +kernel⟩
theorem ok_is_kept (T : Tx K mg wo w) (TP : TxP P K w) : DefOk false P wo K mg base w "is_kept" 3 1 fn_is_kept := by
  obtain ⟨a, fd, F, hm⟩ := T.f_is_kept
  obtain ⟨_, i_BOTH⟩ := T.i_BOTH
  obtain ⟨_, i_SOME⟩ := T.i_SOME
  refine ⟨a, fd, ["word", "first", "second"], rfl, (show FnP false P wo K mg base (0 + 1) a fd _ _ from fn_ok0 T.hT false F sc_is_kept (by decide) fun cdv A outer s H E hgu hr => ?_), hm, F.kp, (F.binds fun _ _ _ _ _ _ us hl => match us, hl with | [_, _, _], _ => rfl)⟩
  exact (pms_cons (pms_if (pmt_eq T.hK hr (pm_var 0) (pm_gstr (by rfl) i_BOTH)) (pms_one (pms_ret (pm_and (pm_var 1) (pm_one (pm_var 2))))) pms_nil)
      (pms_one (pms_ret (pm_if (pmt_eq T.hK hr (pm_var 0) (pm_gstr (by rfl) i_SOME)) (pm_or (pm_var 1) (pm_one (pm_var 2))) (pm_ne T.hK hr (pm_var 1) (pm_var 2))))))
/-! ### joined_parts -/
theorem sc_joined_parts : FnScope ["one", "other", "word", "order", "numbers", "rows", "sides", "kept", "number", "pair", "a", "b", "c", "d"] ["one", "other", "word"] (defScope s_joined_parts) := ⟨rfl, rfl, rfl, by decide +kernel, rfl, by decide +kernel, by decide +kernel⟩
theorem ok_joined_parts (T : Tx K mg wo w) (TP : TxP P K w) : DefOk false P wo K mg base w "joined_parts" 3 3 fn_joined_parts := by
  obtain ⟨a, fd, F, hm⟩ := T.f_joined_parts
  have d_met_pairs := ok_met_pairs (P := P) (base := base) T TP
  have d_is_kept := ok_is_kept (P := P) (base := base) T TP
  refine ⟨a, fd, ["one", "other", "word"], rfl, (show FnP false P wo K mg base (2 + 1) a fd _ _ from fn_ok0 T.hT false F sc_joined_parts (by decide) fun cdv A outer s H E hgu hr => ?_), hm, F.kp, (F.binds fun _ _ _ _ _ _ us hl => match us, hl with | [_, _, _], _ => rfl)⟩
  exact (pms_cons (pms_set (i := 3) sc_joined_parts.nd rfl (by first | exact .inl rfl | exact .inr rfl) (pm_call d_met_pairs (fun z => by cases z) (hr.mono (by omega)) (by rfl) (pma_cons (pm_var 0) (pma_cons (pm_var 1) pma_nil)) (len_cons (len_cons len_nil))))
      (pms_cons (pms_set (i := 4) sc_joined_parts.nd rfl (by first | exact .inl rfl | exact .inr rfl) (pm_dcN (own := [("number", 8), ("pair", 9)]) T.hK T.hW hr rfl sc_joined_parts.nd (pmi_enumL T.hK (by rfl) T.n_enumerate (pma_cons (pm_var 3) pma_nil)) (blkOk_by (by kernel_rfl)) (by decide) (fun _ _ _ _ _ => (pmg_tup T.hK rfl (pmgs_cons (pmg_name (i := 8) sc_joined_parts.nd rfl (by first | exact .inl rfl | exact .inr rfl)) (pmgs_cons (pmg_name (i := 9) sc_joined_parts.nd rfl (by first | exact .inl rfl | exact .inr rfl)) pmgs_nil)))) (fun _ _ _ _ _ => pmts_nil) (fun _ _ _ _ _ => (pm_var 9)) (fun _ _ _ _ _ => (pm_var 8))))
      (pms_cons (pms_lc (i := 5) (ps_lc (own := [("a", 10), ("b", 11)]) rfl sc_joined_parts.nd rfl rfl rfl (pmi_list T.hK (pm_var 3)) (blkOk_by (by kernel_rfl)) (by decide) (fun _ _ _ _ _ => (pmg_tup T.hK rfl (pmgs_cons (pmg_name (i := 10) sc_joined_parts.nd rfl (by first | exact .inl rfl | exact .inr rfl)) (pmgs_cons (pmg_name (i := 11) sc_joined_parts.nd rfl (by first | exact .inl rfl | exact .inr rfl)) pmgs_nil)))) (fun _ _ _ _ _ => pmts_nil) (fun _ _ _ _ _ => (pm_lc (own := [("c", 12), ("d", 13)]) rfl sc_joined_parts.nd (pmi_list T.hK (pm_var 3)) (blkOk_by (by kernel_rfl)) (by decide) (fun _ _ _ _ _ => (pmg_tup T.hK rfl (pmgs_cons (pmg_name (i := 12) sc_joined_parts.nd rfl (by first | exact .inl rfl | exact .inr rfl)) (pmgs_cons (pmg_name (i := 13) sc_joined_parts.nd rfl (by first | exact .inl rfl | exact .inr rfl)) pmgs_nil)))) (fun _ _ _ _ _ => pmts_nil) (fun _ _ _ _ _ => (pm_getK T.hK T.hW hr (pm_var 4) (pm_tup (pma_cons (pm_item T.hK (pm_item T.hK (pm_item T.hK (pm_var 0) pm_int) (pm_var 10)) (pm_var 12)) (pma_cons (pm_item T.hK (pm_item T.hK (pm_item T.hK (pm_var 1) pm_int) (pm_var 11)) (pm_var 13)) pma_nil)))))))))
      (pms_cons (pms_lc (i := 6) (ps_lc (own := [("a", 10), ("b", 11)]) rfl sc_joined_parts.nd rfl rfl rfl (pmi_list T.hK (pm_var 3)) (blkOk_by (by kernel_rfl)) (by decide) (fun _ _ _ _ _ => (pmg_tup T.hK rfl (pmgs_cons (pmg_name (i := 10) sc_joined_parts.nd rfl (by first | exact .inl rfl | exact .inr rfl)) (pmgs_cons (pmg_name (i := 11) sc_joined_parts.nd rfl (by first | exact .inl rfl | exact .inr rfl)) pmgs_nil)))) (fun _ _ _ _ _ => pmts_nil) (fun _ _ _ _ _ => (pm_lc (own := [("c", 12), ("d", 13)]) rfl sc_joined_parts.nd (pmi_list T.hK (pm_var 3)) (blkOk_by (by kernel_rfl)) (by decide) (fun _ _ _ _ _ => (pmg_tup T.hK rfl (pmgs_cons (pmg_name (i := 12) sc_joined_parts.nd rfl (by first | exact .inl rfl | exact .inr rfl)) (pmgs_cons (pmg_name (i := 13) sc_joined_parts.nd rfl (by first | exact .inl rfl | exact .inr rfl)) pmgs_nil)))) (fun _ _ _ _ _ => pmts_nil) (fun _ _ _ _ _ => (pm_getK T.hK T.hW hr (pm_var 4) (pm_tup (pma_cons (pm_item T.hK (pm_item T.hK (pm_item T.hK (pm_var 0) pm_int) (pm_var 10)) (pm_var 12)) (pma_cons (pm_item T.hK (pm_item T.hK (pm_item T.hK (pm_var 1) pm_int) (pm_var 11)) (pm_var 13)) pma_nil)))))))))
      (pms_cons (pms_lc (i := 7) (ps_lc (own := [("a", 10), ("b", 11)]) rfl sc_joined_parts.nd rfl rfl rfl (pmi_list T.hK (pm_var 3)) (blkOk_by (by kernel_rfl)) (by decide) (fun _ _ _ _ _ => (pmg_tup T.hK rfl (pmgs_cons (pmg_name (i := 10) sc_joined_parts.nd rfl (by first | exact .inl rfl | exact .inr rfl)) (pmgs_cons (pmg_name (i := 11) sc_joined_parts.nd rfl (by first | exact .inl rfl | exact .inr rfl)) pmgs_nil)))) (fun _ _ _ _ _ => (pmts_one (pmt_val (pm_call d_is_kept (fun z => by cases z) (hr.mono (by omega)) (by rfl) (pma_cons (pm_var 2) (pma_cons (pm_inA T.hK hr (pm_var 10) (pm_item T.hK (pm_var 0) pm_int)) (pma_cons (pm_inA T.hK hr (pm_var 11) (pm_item T.hK (pm_var 1) pm_int)) pma_nil))) (len_cons (len_cons (len_cons len_nil))))))) (fun _ _ _ _ _ => (pm_getK T.hK T.hW hr (pm_var 4) (pm_tup (pma_cons (pm_var 10) (pma_cons (pm_var 11) pma_nil)))))))
      (pms_one (pms_ret (pm_tup (pma_cons (pm_getK T.hK T.hW hr (pm_var 4) (pm_tup (pma_cons (pm_item T.hK (pm_var 0) pm_int) (pma_cons (pm_item T.hK (pm_var 1) pm_int) pma_nil)))) (pma_cons (pm_getK T.hK T.hW hr (pm_var 4) (pm_tup (pma_cons (pm_item T.hK (pm_var 0) pm_int) (pma_cons (pm_item T.hK (pm_var 1) pm_int) pma_nil)))) (pma_cons (pm_var 5) (pma_cons (pm_var 6) (pma_cons (pm_var 7) pma_nil)))))))))))))
/-! ### X:misread -/
theorem sc_misread : FnScope ["one", "other", "parts", "state", "building"] ["one", "other"] (defScope s_misread) := ⟨rfl, rfl, rfl, by decide +kernel, rfl, by decide +kernel, by decide +kernel⟩
theorem ok_x_misread (T : Tx K mg wo w) (TP : TxP P K w) : DefX P wo K mg base w "misread" 2 4 fn_x_misread := by
  obtain ⟨a, fd, F, hm⟩ := T.f_misread
  have d_x_require_table := ok_x_require_table (P := P) (base := base) T TP
  have d_joined_parts := ok_joined_parts (P := P) (base := base) T TP
  have d_five_of := ok_five_of (P := P) (base := base) T TP
  obtain ⟨_, i_MAX_LEAVES⟩ := T.i_MAX_LEAVES
  refine ⟨a, fd, ["one", "other"], rfl, (show FnOk P wo K mg base (L2.CX P wo) (3 + 1) a fd _ _ from fn_okX T.hT F sc_misread (by decide) fun cdv A outer s H E hr tk hpo => ?_), hm, F.kp, (F.binds fun _ _ _ _ _ _ us hl => match us, hl with | [_, _], _ => rfl)⟩
  exact (pms_cons (pms_expr (pm_callX tk d_x_require_table (hr.mono (by omega)) (by rfl) (pma_cons (pm_var 0) pma_nil) (len_cons len_nil)))
      (pms_cons (pms_expr (pm_callX tk d_x_require_table (hr.mono (by omega)) (by rfl) (pma_cons (pm_var 1) pma_nil) (len_cons len_nil)))
      (pms_cons (pms_set (i := 2) sc_misread.nd rfl (by first | exact .inl rfl | exact .inr rfl) (pm_call d_joined_parts (fun z => by cases z) (hr.mono (by omega)) (by rfl) (pma_cons (pm_call d_five_of (fun z => by cases z) (hr.mono (by omega)) (by rfl) (pma_cons (pm_var 0) pma_nil) (len_cons len_nil)) (pma_cons (pm_call d_five_of (fun z => by cases z) (hr.mono (by omega)) (by rfl) (pma_cons (pm_var 1) pma_nil) (len_cons len_nil)) (pma_cons pm_str pma_nil))) (len_cons (len_cons (len_cons len_nil)))))
      (pms_cons (pms_if (pmt_eq T.hK hr (pm_item T.hK (pm_var 2) pm_int) (pm_lst pma_nil)) (pms_one (pms_ret pm_non)) pms_nil)
      (pms_cons pms_dead
      (pms_one (pms_raise1 tk TP.x_TooMany T.n_super (hr.mono (by omega)) (by rfl) T.c_TooMany (pm_gint (by rfl) i_MAX_LEAVES))))))))
/-! ### Table.__len__ -/
theorem sc_Table_ulenu : FnScope ["self"] ["self"] (defScope s_Table_ulenu) := ⟨rfl, rfl, rfl, by decide +kernel, rfl, by decide +kernel, by decide +kernel⟩
theorem ok_Table_ulenu (T : Tx K mg wo w) (TP : TxP P K w) : ∃ g, DunOk w 1 "__len__" g ∧ MthOk P wo K mg base w g 1 1 fn_Table_ulenu := by
  obtain ⟨a, fd, F, hm⟩ := T.f_Table_ulenu
  refine ⟨a, hm, mth_of (ps := ["self"]) (show FnP false P wo K mg base (0 + 1) a fd _ _ from fn_ok0 T.hT false F sc_Table_ulenu (by decide) fun cdv A outer s H E hgu hr => ?_) (F.binds fun _ _ _ _ _ _ us hl => match us, hl with | [_], _ => rfl)⟩
  exact (pms_one (pms_ret (pm_len T.hK (by rfl) T.n_len (pma_cons (pm_fld T.hK T.sl_own_rows (pm_var 0)) pma_nil))))
/-! ### X:is_closed_set -/
theorem sc_is_closed_set : FnScope ["table", "value", "one", "other", "state"] ["table", "value"] (defScope s_is_closed_set) := ⟨rfl, rfl, rfl, by decide +kernel, rfl, by decide +kernel, by decide +kernel⟩
theorem ok_x_is_closed_set (T : Tx K mg wo w) (TP : TxP P K w) : DefX P wo K mg base w "is_closed_set" 2 8 fn_x_is_closed_set := by
  obtain ⟨a, fd, F, hm⟩ := T.f_is_closed_set
  have d_x_require_table := ok_x_require_table (P := P) (base := base) T TP
  have d_are_states := ok_are_states (P := P) (base := base) T TP
  obtain ⟨_, g_Table_ulenu, m_Table_ulenu⟩ := ok_Table_ulenu (P := P) (base := base) T TP
  have d_results_of := ok_results_of (P := P) (base := base) T TP
  refine ⟨a, fd, ["table", "value"], rfl, (show FnOk P wo K mg base (L2.CX P wo) (7 + 1) a fd _ _ from fn_okX T.hT F sc_is_closed_set (by decide) fun cdv A outer s H E hr tk hpo => ?_), hm, F.kp, (F.binds fun _ _ _ _ _ _ us hl => match us, hl with | [_, _], _ => rfl)⟩
  exact (pms_cons (pms_expr (pm_callX tk d_x_require_table (hr.mono (by omega)) (by rfl) (pma_cons (pm_var 0) pma_nil) (len_cons len_nil)))
      (pms_cons (pms_if (PMW.pt (pmw_or (pmt_not (pmt_val (pm_call d_are_states (fun z => by cases z) (hr.mono (by omega)) (by rfl) (pma_cons (pm_lenOb T.hK g_Table_ulenu m_Table_ulenu (hr.mono (by omega)) (by rfl) T.n_len (pma_cons (pm_var 0) pma_nil)) (pma_cons (pm_var 1) pma_nil)) (len_cons (len_cons len_nil))))) (pmw_or (pmt_notInA T.hK hr (pm_fld T.hK T.sl_own_tie (pm_var 0)) (pm_var 1)) (pmw_or1 (pmt_notInA T.hK hr (pm_fld T.hK T.sl_own_gap (pm_var 0)) (pm_var 1)))))) (pms_one (pms_ret pm_bl)) pms_nil)
      (pms_cons (pms_for hpo rfl (pmi_tup T.hK (pm_var 1)) (pmg_name (i := 2) sc_is_closed_set.nd rfl (by first | exact .inl rfl | exact .inr rfl)) (pms_one (pms_for hpo rfl (pmi_tup T.hK (pm_var 1)) (pmg_name (i := 3) sc_is_closed_set.nd rfl (by first | exact .inl rfl | exact .inr rfl)) (pms_one (pms_if (pmt_not (pmt_val (pm_all T.hK rfl (by rfl) T.n_all (pma_cons (pm_lc (own := [("state", 4)]) rfl sc_is_closed_set.nd (pmi_tup T.hK (pm_call d_results_of (fun z => by cases z) (hr.mono (by omega)) (by rfl) (pma_cons (pm_fld T.hK T.sl_own_rows (pm_var 0)) (pma_cons (pm_fld T.hK T.sl_own_sides (pm_var 0)) (pma_cons (pm_var 2) (pma_cons (pm_var 3) pma_nil)))) (len_cons (len_cons (len_cons (len_cons len_nil)))))) (blkOk_by (by kernel_rfl)) (by decide) (fun _ _ _ _ _ => (pmg_name (i := 4) sc_is_closed_set.nd rfl (by first | exact .inl rfl | exact .inr rfl))) (fun _ _ _ _ _ => pmts_nil) (fun _ _ _ _ _ => (pm_inA T.hK hr (pm_var 4) (pm_var 1)))) pma_nil)))) (pms_one (pms_ret pm_bl)) pms_nil)))))
      (pms_one (pms_ret pm_bl)))))
/-! ### _law_calls_right -/
theorem sc_l_calls_right : FnScope ["_law_dice_here", "_law_table", "_law_odd", "_law_some", "_law_due", "_law_told", "_law_bent", "_law_order", "_law_good", "_law_fine", "_law_first", "_law_second", "_law_one", "_law_other"] ["_law_dice_here", "_law_table"] (defScope s_l_calls_right) := ⟨rfl, rfl, rfl, by decide +kernel, rfl, by decide +kernel, by decide +kernel⟩
theorem ok_l_calls_right {TT : List (Addr × Str)} (T : Tx K mg wo w) (TP : TxP P K w) (Zs : ∀ x ∈ lamN, ∃ c P, TabX K base mg TT x c P) : DefT P wo K mg base (w.wT TT) "_law_calls_right" 2 16 fn_l_calls_right := by
  obtain ⟨a, fd, F, hm⟩ := T.f_l_calls_right
  obtain ⟨_, g_Table_rows, m_Table_rows⟩ := ok_Table_rows (P := P) (base := base) T TP
  replace g_Table_rows := g_Table_rows.wT TT
  replace m_Table_rows := m_Table_rows.wT TT
  have d_l_pick := ok_l_pick (P := P) (base := base) T TP
  replace d_l_pick := d_l_pick.wT TT
  obtain ⟨_, g_Building_tie, m_Building_tie⟩ := ok_Building_tie (P := P) (base := base) T TP
  replace g_Building_tie := g_Building_tie.wT TT
  replace m_Building_tie := m_Building_tie.wT TT
  obtain ⟨_, _, F_l_met, hm_l_met⟩ := T.f_l_met
  obtain ⟨_, g_x_Table_state_of, m_x_Table_state_of⟩ := ok_x_Table_state_of (P := P) (base := base) T TP
  replace g_x_Table_state_of := g_x_Table_state_of.wT TT
  replace m_x_Table_state_of := m_x_Table_state_of.wT TT
  obtain ⟨_, g_x_Table_accepts, m_x_Table_accepts⟩ := ok_x_Table_accepts (P := P) (base := base) T TP
  replace g_x_Table_accepts := g_x_Table_accepts.wT TT
  replace m_x_Table_accepts := m_x_Table_accepts.wT TT
  obtain ⟨_, g_x_Table_renumbered, m_x_Table_renumbered⟩ := ok_x_Table_renumbered (P := P) (base := base) T TP
  replace g_x_Table_renumbered := g_x_Table_renumbered.wT TT
  replace m_x_Table_renumbered := m_x_Table_renumbered.wT TT
  obtain ⟨_, g_x_Table_with_accepted, m_x_Table_with_accepted⟩ := ok_x_Table_with_accepted (P := P) (base := base) T TP
  replace g_x_Table_with_accepted := g_x_Table_with_accepted.wT TT
  replace m_x_Table_with_accepted := m_x_Table_with_accepted.wT TT
  have d_x_misread := ok_x_misread (P := P) (base := base) T TP
  replace d_x_misread := d_x_misread.wT TT
  have d_x_is_closed_set := ok_x_is_closed_set (P := P) (base := base) T TP
  replace d_x_is_closed_set := d_x_is_closed_set.wT TT
  obtain ⟨cc, PP, Z⟩ := Zs "_law_calls_right" (by decide)
  refine ⟨a, fd, ["_law_dice_here", "_law_table"], rfl, (show FnG P wo K mg base CX0 (15 + 1) a fd _ _ from fn_okT (Z.code a hm) F sc_l_calls_right (by decide) fun A outer s H E hgu hr => ?_), hm, F.kp, (F.binds fun _ _ _ _ _ _ us hl => match us, hl with | [_, _], _ => rfl)⟩
  exact (pms_cons (pms_set (i := 2) sc_l_calls_right.nd rfl (by first | exact .inl rfl | exact .inr rfl) (pm_lst (pma_cons pm_non (pma_cons pm_int (pma_cons pm_str (pma_cons (pm_tup pma_nil) (pma_cons pm_dct0 (pma_cons pm_bl (pma_cons (pm_lst (pma_cons (pm_var 1) pma_nil)) (pma_cons (pm_prop T.hK g_Table_rows m_Table_rows (hr.mono (by omega)) (pm_var 1)) pma_nil))))))))))
      (pms_cons (pms_set (i := 3) sc_l_calls_right.nd rfl (by first | exact .inl rfl | exact .inr rfl) (pm_callD 0 d_l_pick (fun z => by cases z) (hr.mono (by omega)) (by rfl) (pma_cons (pm_add T.hK (pm_add T.hK (pm_mulL (pm_lst (pma_cons (pm_cm0 T.hK g_Building_tie m_Building_tie (hr.mono (by omega)) (by rfl) T.c_Building) pma_nil)) pm_int) (pm_var 2)) (pm_lst (pma_cons (pm_var 1) pma_nil))) pma_nil) (len_cons len_nil)))
      (pms_cons (pms_set (i := 4) sc_l_calls_right.nd rfl (by first | exact .inl rfl | exact .inr rfl) (pm_if (pmt_val (pm_isiC T.hK (T.cok.wT TT) T.isi_Building (by rfl) T.n_isinstance (by rfl) T.c_Building (pm_var 3))) pm_str pm_str))
      (pms_cons (pms_setO (i := 5) sc_l_calls_right.nd rfl (by first | exact .inl rfl | exact .inr rfl) (pm_lst (pma_cons (pm_toldX (n := "_law_call") (L := excL) (cs := tc_l_met) (i := 0) (k := 13) T.hK F_l_met hm_l_met (by rfl) (F_l_met.binds fun _ _ _ _ _ _ us hl => match us, hl with | [_], _ => rfl) rfl sc_l_met rfl (.inl rfl) T.sys hgu (.plain rfl T.c_InvalidTable (.plain rfl T.c_InvalidBuilding (.plain rfl T.c_InvalidOperation .nil))) T.exm (by decide) rfl rfl (fun _ _ => rfl) (fun _ _ => rfl) (fun _ => rfl) Z.tab rfl Z.mem Z.uni (hr.mono (by omega)) (LamX.lamS_by (by kernel_rfl)) rfl (fun _ _ _ _ _ => rfl) (fun A outer s H E f c_ hr tk => (pm_methX tk T.hK g_x_Table_state_of m_x_Table_state_of (hr.mono (by omega)) (pm_var 1) (pma_cons (pm_var 3) pma_nil) (len_cons len_nil)))) pma_nil)))
      (pms_cons (pms_expr (pm_append 5 T.hK (pma_cons (pm_toldX (n := "_law_call") (L := excL) (cs := tc_l_met) (i := 0) (k := 13) T.hK F_l_met hm_l_met (by rfl) (F_l_met.binds fun _ _ _ _ _ _ us hl => match us, hl with | [_], _ => rfl) rfl sc_l_met rfl (.inl rfl) T.sys hgu (.plain rfl T.c_InvalidTable (.plain rfl T.c_InvalidBuilding (.plain rfl T.c_InvalidOperation .nil))) T.exm (by decide) rfl rfl (fun _ _ => rfl) (fun _ _ => rfl) (fun _ => rfl) Z.tab rfl Z.mem Z.uni (hr.mono (by omega)) (LamX.lamS_by (by kernel_rfl)) rfl (fun _ _ _ _ _ => rfl) (fun A outer s H E f c_ hr tk => (pm_methX tk T.hK g_x_Table_accepts m_x_Table_accepts (hr.mono (by omega)) (pm_var 1) (pma_cons (pm_var 3) pma_nil) (len_cons len_nil)))) pma_nil)))
      (pms_cons (pms_if (pmt_ne T.hK hr (pm_give 5) (pm_lst (pma_cons (pm_var 4) (pma_cons (pm_var 4) pma_nil)))) (pms_one (pms_ret pm_bl)) pms_nil)
      (pms_cons (pms_set (i := 6) sc_l_calls_right.nd rfl (by first | exact .inl rfl | exact .inr rfl) (pm_lst (pma_cons (pm_tup (pma_cons pm_int pma_nil)) (pma_cons (pm_tup (pma_cons pm_int (pma_cons pm_int pma_nil))) (pma_cons (pm_tup (pma_cons pm_int (pma_cons pm_int (pma_cons pm_int pma_nil)))) (pma_cons (pm_lst (pma_cons pm_int (pma_cons pm_int pma_nil))) (pma_cons (pm_tup (pma_cons pm_bl (pma_cons pm_int pma_nil))) (pma_cons (pm_tup (pma_cons pm_int (pma_cons pm_bl pma_nil))) (pma_cons (pm_tup (pma_cons pm_str (pma_cons pm_str pma_nil))) (pma_cons pm_non (pma_cons pm_int (pma_cons pm_dct0 pma_nil))))))))))))
      (pms_cons (pms_set (i := 7) sc_l_calls_right.nd rfl (by first | exact .inl rfl | exact .inr rfl) (pm_callD 0 d_l_pick (fun z => by cases z) (hr.mono (by omega)) (by rfl) (pma_cons (pm_add T.hK (pm_mulL (pm_lst (pma_cons (pm_tup (pma_cons pm_int (pma_cons pm_int pma_nil))) (pma_cons (pm_tup (pma_cons pm_int (pma_cons pm_int pma_nil))) pma_nil))) pm_int) (pm_var 6)) pma_nil) (len_cons len_nil)))
      (pms_cons (pms_if (pmt_ne T.hK hr (pm_toldX (n := "_law_call") (L := excL) (cs := tc_l_met) (i := 0) (k := 13) T.hK F_l_met hm_l_met (by rfl) (F_l_met.binds fun _ _ _ _ _ _ us hl => match us, hl with | [_], _ => rfl) rfl sc_l_met rfl (.inl rfl) T.sys hgu (.plain rfl T.c_InvalidTable (.plain rfl T.c_InvalidBuilding (.plain rfl T.c_InvalidOperation .nil))) T.exm (by decide) rfl rfl (fun _ _ => rfl) (fun _ _ => rfl) (fun _ => rfl) Z.tab rfl Z.mem Z.uni (hr.mono (by omega)) (LamX.lamS_by (by kernel_rfl)) rfl (fun _ _ _ _ _ => rfl) (fun A outer s H E f c_ hr tk => (pm_methX tk T.hK g_x_Table_renumbered m_x_Table_renumbered (hr.mono (by omega)) (pm_var 1) (pma_cons (pm_var 7) pma_nil) (len_cons len_nil)))) (pm_if (pmt_inA T.hK hr (pm_reprX T.hK T.sys hgu hr (by rfl) T.n_repr (pma_cons (pm_var 7) pma_nil)) (pm_tup (pma_cons pm_str (pma_cons pm_str pma_nil)))) pm_str pm_str)) (pms_one (pms_ret pm_bl)) pms_nil)
      (pms_cons (pms_set (i := 8) sc_l_calls_right.nd rfl (by first | exact .inl rfl | exact .inr rfl) (pm_callD 0 d_l_pick (fun z => by cases z) (hr.mono (by omega)) (by rfl) (pma_cons (pm_lst (pma_cons (pm_tup pma_nil) (pma_cons (pm_tup (pma_cons pm_int pma_nil)) (pma_cons (pm_tup (pma_cons pm_int pma_nil)) (pma_cons (pm_tup (pma_cons pm_int (pma_cons pm_int pma_nil))) (pma_cons (pm_tup (pma_cons pm_int (pma_cons pm_int pma_nil))) (pma_cons (pm_tup (pma_cons pm_int pma_nil)) (pma_cons (pm_lst (pma_cons pm_int pma_nil)) (pma_cons (pm_tup (pma_cons pm_bl pma_nil)) (pma_cons pm_non (pma_cons pm_int (pma_cons pm_dct0 (pma_cons (pm_tup (pma_cons pm_str pma_nil)) (pma_cons (pm_tup (pma_cons pm_int (pma_cons pm_int pma_nil))) pma_nil)))))))))))))) pma_nil) (len_cons len_nil)))
      (pms_cons (pms_set (i := 9) sc_l_calls_right.nd rfl (by first | exact .inl rfl | exact .inr rfl) (pm_inA T.hK hr (pm_reprX T.hK T.sys hgu hr (by rfl) T.n_repr (pma_cons (pm_var 8) pma_nil)) (pm_tup (pma_cons pm_str (pma_cons pm_str (pma_cons pm_str (pma_cons pm_str pma_nil)))))))
      (pms_cons (pms_if (pmt_ne T.hK hr (pm_toldX (n := "_law_call") (L := excL) (cs := tc_l_met) (i := 0) (k := 13) T.hK F_l_met hm_l_met (by rfl) (F_l_met.binds fun _ _ _ _ _ _ us hl => match us, hl with | [_], _ => rfl) rfl sc_l_met rfl (.inl rfl) T.sys hgu (.plain rfl T.c_InvalidTable (.plain rfl T.c_InvalidBuilding (.plain rfl T.c_InvalidOperation .nil))) T.exm (by decide) rfl rfl (fun _ _ => rfl) (fun _ _ => rfl) (fun _ => rfl) Z.tab rfl Z.mem Z.uni (hr.mono (by omega)) (LamX.lamS_by (by kernel_rfl)) rfl (fun _ _ _ _ _ => rfl) (fun A outer s H E f c_ hr tk => (pm_methX tk T.hK g_x_Table_with_accepted m_x_Table_with_accepted (hr.mono (by omega)) (pm_var 1) (pma_cons (pm_var 8) pma_nil) (len_cons len_nil)))) (pm_if (pmt_val (pm_var 9)) pm_str pm_str)) (pms_one (pms_ret pm_bl)) pms_nil)
      (pms_cons (pms_asgG (pm_tup (pma_cons (pm_callD 0 d_l_pick (fun z => by cases z) (hr.mono (by omega)) (by rfl) (pma_cons (pm_add T.hK (pm_mulL (pm_lst (pma_cons (pm_var 1) pma_nil)) pm_int) (pm_var 2)) pma_nil) (len_cons len_nil)) (pma_cons (pm_callD 0 d_l_pick (fun z => by cases z) (hr.mono (by omega)) (by rfl) (pma_cons (pm_add T.hK (pm_mulL (pm_lst (pma_cons (pm_var 1) pma_nil)) pm_int) (pm_var 2)) pma_nil) (len_cons len_nil)) pma_nil))) (pmg_tup T.hK rfl (pmgs_cons (pmg_name (i := 12) sc_l_calls_right.nd rfl (by first | exact .inl rfl | exact .inr rfl)) (pmgs_cons (pmg_name (i := 13) sc_l_calls_right.nd rfl (by first | exact .inl rfl | exact .inr rfl)) pmgs_nil))))
      (pms_cons (pms_set (i := 10) sc_l_calls_right.nd rfl (by first | exact .inl rfl | exact .inr rfl) (pm_if (pmt_val (pm_isiC T.hK (T.cok.wT TT) T.isi_Table (by rfl) T.n_isinstance (by rfl) T.c_Table (pm_var 12))) pm_str pm_str))
      (pms_cons (pms_set (i := 11) sc_l_calls_right.nd rfl (by first | exact .inl rfl | exact .inr rfl) (pm_if (pmt_val (pm_isiC T.hK (T.cok.wT TT) T.isi_Table (by rfl) T.n_isinstance (by rfl) T.c_Table (pm_var 13))) pm_str pm_str))
      (pms_cons (pms_setO (i := 5) sc_l_calls_right.nd rfl (by first | exact .inl rfl | exact .inr rfl) (pm_lst (pma_cons (pm_toldX (n := "_law_call") (L := excL) (cs := tc_l_met) (i := 0) (k := 13) T.hK F_l_met hm_l_met (by rfl) (F_l_met.binds fun _ _ _ _ _ _ us hl => match us, hl with | [_], _ => rfl) rfl sc_l_met rfl (.inl rfl) T.sys hgu (.plain rfl T.c_InvalidTable (.plain rfl T.c_InvalidBuilding (.plain rfl T.c_InvalidOperation .nil))) T.exm (by decide) rfl rfl (fun _ _ => rfl) (fun _ _ => rfl) (fun _ => rfl) Z.tab rfl Z.mem Z.uni (hr.mono (by omega)) (LamX.lamS_by (by kernel_rfl)) rfl (fun _ _ _ _ _ => rfl) (fun A outer s H E f c_ hr tk => (pm_callX tk d_x_misread (hr.mono (by omega)) (by rfl) (pma_cons (pm_var 12) (pma_cons (pm_var 13) pma_nil)) (len_cons (len_cons len_nil))))) pma_nil)))
      (pms_cons (pms_expr (pm_append 5 T.hK (pma_cons (pm_toldX (n := "_law_call") (L := excL) (cs := tc_l_met) (i := 0) (k := 13) T.hK F_l_met hm_l_met (by rfl) (F_l_met.binds fun _ _ _ _ _ _ us hl => match us, hl with | [_], _ => rfl) rfl sc_l_met rfl (.inl rfl) T.sys hgu (.plain rfl T.c_InvalidTable (.plain rfl T.c_InvalidBuilding (.plain rfl T.c_InvalidOperation .nil))) T.exm (by decide) rfl rfl (fun _ _ => rfl) (fun _ _ => rfl) (fun _ => rfl) Z.tab rfl Z.mem Z.uni (hr.mono (by omega)) (LamX.lamS_by (by kernel_rfl)) rfl (fun _ _ _ _ _ => rfl) (fun A outer s H E f c_ hr tk => (pm_callX tk d_x_is_closed_set (hr.mono (by omega)) (by rfl) (pma_cons (pm_var 12) (pma_cons (pm_var 13) pma_nil)) (len_cons (len_cons len_nil))))) pma_nil)))
      (pms_one (pms_ret (pm_eq T.hK hr (pm_give 5) (pm_lst (pma_cons (pm_if (pmt_ne T.hK hr (pm_var 10) pm_str) (pm_var 10) (pm_var 11)) (pma_cons (pm_var 10) pma_nil)))))))))))))))))))))))
/-! ### law -/
theorem sc_lawX : FnScope ["_law_script", "_law_table", "_law_spot", "_law_dice_here", "_law_turn"] ["_law_script"] (defScope s_lawX) := ⟨rfl, rfl, rfl, by decide +kernel, rfl, by decide +kernel, by decide +kernel⟩
theorem top_law {TT : List (Addr × Str)} (T : Tx K mg wo w) : ∃ a fd, mg "law" = some (.ref a) ∧ (∀ (s : Shared) (u : Value), BindsTo s fd ⟨[u], []⟩ [("_law_script", u)]) ∧ ∀ (P : Program) (base : Heap), TxP P K w → (∀ x ∈ lamN, ∃ c P, TabX K base mg TT x c P) → FnG P wo K mg base CX0 20 a fd ["_law_script"] (spT (w.wT TT) 1 fn_lawX) := by
  obtain ⟨a, fd, F, hm⟩ := T.f_lawX
  refine ⟨a, fd, hm, ?_, fun P base TP Zs => ?_⟩
  · obtain ⟨oc, od, kV, doc, pm, an, cdv, ct, osl, rfl, lk, hcd⟩ := F.ex
    exact fun s u => .of_eq rfl
  have k_Table_uinitu := ok_Table_uinitu (P := P) (base := base) T TP
  replace k_Table_uinitu := k_Table_uinitu.wT TT
  have d_l_dice := ok_l_dice (P := P) (base := base) T TP
  replace d_l_dice := d_l_dice.wT TT
  have t_l_parts_right := ok_l_parts_right (P := P) (base := base) T TP Zs
  have t_l_calls_right := ok_l_calls_right (P := P) (base := base) T TP Zs
  obtain ⟨_, _, F_l_met, hm_l_met⟩ := T.f_l_met
  have k_x_Table_uinitu := ok_x_Table_uinitu (P := P) (base := base) T TP
  replace k_x_Table_uinitu := k_x_Table_uinitu.wT TT
  obtain ⟨cc, PP, Z⟩ := Zs "law" (by decide)
  refine (show FnG P wo K mg base CX0 (19 + 1) a fd _ _ from fn_okT (Z.code a hm) F sc_lawX (by decide) fun A outer s H E hgu hr => ?_)
  exact (pms_cons (pms_set (i := 1) sc_lawX.nd rfl (by first | exact .inl rfl | exact .inr rfl) (pm_make k_Table_uinitu (hr.mono (by omega)) (by rfl) T.c_Table (pma_cons pm_int (pma_cons pm_int (pma_cons (pm_tup (pma_cons (pm_tup (pma_cons pm_int (pma_cons pm_int pma_nil))) (pma_cons (pm_tup (pma_cons pm_int (pma_cons pm_int pma_nil))) pma_nil))) (pma_cons (pm_tup (pma_cons (pm_tup (pma_cons pm_int (pma_cons pm_int pma_nil))) (pma_cons (pm_tup (pma_cons pm_int (pma_cons pm_int pma_nil))) pma_nil))) (pma_cons (pm_tup (pma_cons pm_int pma_nil)) pma_nil))))) (len_cons (len_cons (len_cons (len_cons (len_cons len_nil)))))))
      (pms_cons (pms_for PassesOwn.never rfl (pmi_range1 (by rfl) T.n_range (pma_cons (pm_max rfl (by rfl) T.n_max (pma_cons pm_int (pma_cons (pm_min rfl (by rfl) T.n_min (pma_cons pm_int (pma_cons (pm_len T.hK (by rfl) T.n_len (pma_cons (pm_var 0) pma_nil)) pma_nil))) pma_nil))) pma_nil)) (pmg_name (i := 2) sc_lawX.nd rfl (by first | exact .inl rfl | exact .inr rfl)) (pms_cons (pms_setO (i := 3) sc_lawX.nd rfl (by first | exact .inl rfl | exact .inr rfl) (pm_call d_l_dice (fun z => by cases z) (hr.mono (by omega)) (by rfl) (pma_cons (pm_var 0) (pma_cons (pm_var 2) pma_nil)) (len_cons (len_cons len_nil))))
      (pms_one (pms_for PassesOwn.never rfl (pmi_range1 (by rfl) T.n_range (pma_cons pm_int pma_nil)) (pmg_name (i := 4) sc_lawX.nd rfl (by first | exact .inl rfl | exact .inr rfl)) (pms_one (pms_if (PMW.pt (pmw_or (pmt_not (pmt_val (pm_callDT 3 t_l_parts_right hgu (hr.mono (by omega)) (by rfl) pma_nil len_nil))) (pmw_or1 (pmt_not (pmt_val (pm_callDT 3 t_l_calls_right hgu (hr.mono (by omega)) (by rfl) (pma_cons (pm_var 1) pma_nil) (len_cons len_nil))))))) (pms_one (pms_ret pm_bl)) pms_nil))))))
      (pms_one (pms_ret (pm_eq T.hK hr (pm_toldX (n := "_law_call") (L := excL) (cs := tc_l_met) (i := 0) (k := 17) T.hK F_l_met hm_l_met (by rfl) (F_l_met.binds fun _ _ _ _ _ _ us hl => match us, hl with | [_], _ => rfl) rfl sc_l_met rfl (.inl rfl) T.sys hgu (.plain rfl T.c_InvalidTable (.plain rfl T.c_InvalidBuilding (.plain rfl T.c_InvalidOperation .nil))) T.exm (by decide) rfl rfl (fun _ _ => rfl) (fun _ _ => rfl) (fun _ => rfl) Z.tab rfl Z.mem Z.uni (hr.mono (by omega)) (LamX.lamS_by (by kernel_rfl)) rfl (fun _ _ _ _ _ => rfl) (fun A outer s H E f c_ hr tk => (pm_makeX tk k_x_Table_uinitu (hr.mono (by omega)) (by rfl) T.c_Table (pma_cons pm_int (pma_cons pm_int (pma_cons (pm_tup (pma_cons (pm_tup (pma_cons pm_int pma_nil)) pma_nil)) (pma_cons (pm_tup (pma_cons (pm_tup (pma_cons pm_int pma_nil)) pma_nil)) (pma_cons (pm_tup pma_nil) pma_nil))))) (len_cons (len_cons (len_cons (len_cons (len_cons len_nil)))))))) pm_str)))))
end
end PM.G

namespace PM.G
open PySem PySem.Spec PyProof.Rows L2 PM
def clOf (K : PySem.W.Frag) : Nat → Addr
  | 0 => He.ga K "Building"
  | 1 => He.ga K "Table"
  | 2 => He.ga K "TooMany"
  | 3 => He.ga K "InvalidTable"
  | 4 => He.ga K "InvalidBuilding"
  | 5 => He.ga K "InvalidOperation"
  | _ => 0
abbrev wd (K : PySem.W.Frag) (wo : World) : Wd := ⟨K, clOf K, wo, []⟩
theorem tx {K : PySem.W.Frag} {hp : Heap} {mg : Str → Option Value} {wo : World} (X : K.In hp) (G : hp.Ns mainGlobals mg) (c : SaysM cs fns tabs wo K) : Tx K mg wo (wd K wo) where
  hK := rfl
  hT := rfl
  hW := rfl
  cok := ⟨fun cc hc => by
      match cc, hc with
      | 0, _ => exact sclsB_ok (c.fact 0)
      | 1, _ => exact sclsB_ok (c.fact 1)
      | n + 2, hc => exact absurd hc (by omega), fun cc hc => by
      match cc, hc with
      | 0, _ => exact sisiB_ok (c.fact 2)
      | 1, _ => exact sisiB_ok (c.fact 3)
      | n + 2, hc => exact absurd hc (by omega)⟩
  n_abs := He.free_ok X G (c.fact 4)
  n_all := He.free_ok X G (c.fact 5)
  n_bool := He.free_ok X G (c.fact 6)
  n_enumerate := He.free_ok X G (c.fact 7)
  n_int := He.free_ok X G (c.fact 8)
  n_isinstance := He.free_ok X G (c.fact 9)
  n_len := He.free_ok X G (c.fact 10)
  n_list := He.free_ok X G (c.fact 11)
  n_max := He.free_ok X G (c.fact 12)
  n_min := He.free_ok X G (c.fact 13)
  n_range := He.free_ok X G (c.fact 14)
  n_repr := He.free_ok X G (c.fact 15)
  n_set := He.free_ok X G (c.fact 16)
  n_sorted := He.free_ok X G (c.fact 17)
  n_tuple := He.free_ok X G (c.fact 18)
  n_zip := He.free_ok X G (c.fact 19)
  i_GREAT := He.int_ok X G (c.fact 20)
  i_MAX_LEAVES := He.int_ok X G (c.fact 21)
  i_MAX_STATES := He.int_ok X G (c.fact 22)
  i_BOTH := He.str_ok X G (c.fact 23)
  i_ROW := He.str_ok X G (c.fact 24)
  i_SOME := He.str_ok X G (c.fact 25)
  i_TIE := He.str_ok X G (c.fact 26)
  t_LOST := ⟨He.ga K "LOST", He.glo_ok X G (c.fact 27), fun z d e => by
      unfold tab_LOST at e
      split at e
      · rename_i hz
        cases e
        subst hz
        exact ⟨_, valB_ok (c.tab 0) (c.fact 28), fun O H => by simp only [Rep]; rfl⟩
      ·
        split at e
        · rename_i hz
          cases e
          subst hz
          exact ⟨_, valB_ok (c.tab 0) (c.fact 29), fun O H => by simp only [Rep]; rfl⟩
        · cases e⟩
  t_SIGNS := ⟨He.ga K "SIGNS", He.glo_ok X G (c.fact 30), fun z d e => by
      unfold tab_SIGNS at e
      split at e
      · rename_i hz
        cases e
        subst hz
        exact ⟨_, valB_ok (c.tab 1) (c.fact 31), fun O H => by simp only [Rep]; rfl⟩
      ·
        split at e
        · rename_i hz
          cases e
          subst hz
          exact ⟨_, valB_ok (c.tab 1) (c.fact 32), fun O H => by simp only [Rep]; rfl⟩
        · cases e⟩
  c_Building := He.glo_ok X G (c.fact 33)
  c_InvalidBuilding := He.glo_ok X G (c.fact 34)
  c_InvalidOperation := He.glo_ok X G (c.fact 35)
  c_InvalidTable := He.glo_ok X G (c.fact 36)
  c_Table := He.glo_ok X G (c.fact 37)
  c_TooMany := He.glo_ok X G (c.fact 38)
  n_super := He.free_ok X G (c.fact 39)
  k_TooMany := clkB_ok (c.fact 40)
  exm := exmsB_ok (xn := xnL) (c.fact 41) ⟨rfl, rfl, rfl, trivial⟩
  sys := (c.fact 42)
  x0_InvalidTable := err0B_ok (c.fact 43)
  x0_InvalidBuilding := err0B_ok (c.fact 44)
  x0_InvalidOperation := err0B_ok (c.fact 45)
  isi_Building := fun t b e => by
      unfold ans_Building at e
      split at e
      · cases e; exact kitB_ok (c.fact 46)
      · cases e; exact kitB_ok (c.fact 47)
      · cases e; exact kitB_ok (c.fact 48)
      · cases e; exact kitB_ok (c.fact 49)
      · cases e; exact kitB_ok (c.fact 50)
      · cases e; exact kitB_ok (c.fact 51)
      · cases e; exact kitB_ok (c.fact 52)
      · cases e; exact kitB_ok (c.fact 53)
      · cases e; exact kitB_ok (c.fact 54)
      · cases e
  isi_Table := fun t b e => by
      unfold ans_Table at e
      split at e
      · cases e; exact kitB_ok (c.fact 55)
      · cases e; exact kitB_ok (c.fact 56)
      · cases e; exact kitB_ok (c.fact 57)
      · cases e; exact kitB_ok (c.fact 58)
      · cases e; exact kitB_ok (c.fact 59)
      · cases e; exact kitB_ok (c.fact 60)
      · cases e; exact kitB_ok (c.fact 61)
      · cases e; exact kitB_ok (c.fact 62)
      · cases e; exact kitB_ok (c.fact 63)
      · cases e
  isi_bool := fun t b e => by
      unfold ans_bool at e
      split at e
      · cases e; exact kitB_ok (c.fact 64)
      · cases e; exact kitB_ok (c.fact 65)
      · cases e; exact kitB_ok (c.fact 66)
      · cases e; exact kitB_ok (c.fact 67)
      · cases e; exact kitB_ok (c.fact 68)
      · cases e; exact kitB_ok (c.fact 69)
      · cases e; exact kitB_ok (c.fact 70)
      · cases e; exact kitB_ok (c.fact 71)
      · cases e; exact kitB_ok (c.fact 72)
      · cases e
  isi_int := fun t b e => by
      unfold ans_int at e
      split at e
      · cases e; exact kitB_ok (c.fact 73)
      · cases e; exact kitB_ok (c.fact 74)
      · cases e; exact kitB_ok (c.fact 75)
      · cases e; exact kitB_ok (c.fact 76)
      · cases e; exact kitB_ok (c.fact 77)
      · cases e; exact kitB_ok (c.fact 78)
      · cases e; exact kitB_ok (c.fact 79)
      · cases e; exact kitB_ok (c.fact 80)
      · cases e; exact kitB_ok (c.fact 81)
      · cases e
  isi_tuple := fun t b e => by
      unfold ans_tuple at e
      split at e
      · cases e; exact kitB_ok (c.fact 82)
      · cases e; exact kitB_ok (c.fact 83)
      · cases e; exact kitB_ok (c.fact 84)
      · cases e; exact kitB_ok (c.fact 85)
      · cases e; exact kitB_ok (c.fact 86)
      · cases e; exact kitB_ok (c.fact 87)
      · cases e; exact kitB_ok (c.fact 88)
      · cases e; exact kitB_ok (c.fact 89)
      · cases e; exact kitB_ok (c.fact 90)
      · cases e
  sl_own_accepted := fun c i e => by
      unfold ix_own_accepted at e
      split at e
      · cases e; exact ⟨sclsB_ok (c.fact 1), slotB_ok (c.fact 91)⟩
      · cases e
  sl_own_gap := fun c i e => by
      unfold ix_own_gap at e
      split at e
      · cases e; exact ⟨sclsB_ok (c.fact 1), slotB_ok (c.fact 92)⟩
      · cases e
  sl_own_leaves := fun c i e => by
      unfold ix_own_leaves at e
      split at e
      · cases e; exact ⟨sclsB_ok (c.fact 0), slotB_ok (c.fact 93)⟩
      · cases e
  sl_own_many := fun c i e => by
      unfold ix_own_many at e
      split at e
      · cases e; exact ⟨sclsB_ok (c.fact 0), slotB_ok (c.fact 94)⟩
      · cases e
  sl_own_parts := fun c i e => by
      unfold ix_own_parts at e
      split at e
      · cases e; exact ⟨sclsB_ok (c.fact 0), slotB_ok (c.fact 95)⟩
      · cases e
  sl_own_rows := fun c i e => by
      unfold ix_own_rows at e
      split at e
      · cases e; exact ⟨sclsB_ok (c.fact 1), slotB_ok (c.fact 96)⟩
      · cases e
  sl_own_sides := fun c i e => by
      unfold ix_own_sides at e
      split at e
      · cases e; exact ⟨sclsB_ok (c.fact 1), slotB_ok (c.fact 97)⟩
      · cases e
  sl_own_size := fun c i e => by
      unfold ix_own_size at e
      split at e
      · cases e; exact ⟨sclsB_ok (c.fact 0), slotB_ok (c.fact 98)⟩
      · cases e
  sl_own_text := fun c i e => by
      unfold ix_own_text at e
      split at e
      · cases e; exact ⟨sclsB_ok (c.fact 0), slotB_ok (c.fact 99)⟩
      · cases e
  sl_own_tie := fun c i e => by
      unfold ix_own_tie at e
      split at e
      · cases e; exact ⟨sclsB_ok (c.fact 1), slotB_ok (c.fact 100)⟩
      · cases e
  sl_word := fun c i e => by
      unfold ix_word at e
      split at e
      · cases e; exact ⟨sclsB_ok (c.fact 0), slotB_ok (c.fact 101)⟩
      · cases e
  st_own_leaves_0 := ⟨sclsB_ok (c.fact 0), slotB_ok (c.fact 93)⟩
  st_own_many_0 := ⟨sclsB_ok (c.fact 0), slotB_ok (c.fact 94)⟩
  st_own_parts_0 := ⟨sclsB_ok (c.fact 0), slotB_ok (c.fact 95)⟩
  st_own_size_0 := ⟨sclsB_ok (c.fact 0), slotB_ok (c.fact 98)⟩
  st_own_text_0 := ⟨sclsB_ok (c.fact 0), slotB_ok (c.fact 99)⟩
  st_word_0 := ⟨sclsB_ok (c.fact 0), slotB_ok (c.fact 101)⟩
  st_own_accepted_1 := ⟨sclsB_ok (c.fact 1), slotB_ok (c.fact 91)⟩
  st_own_gap_1 := ⟨sclsB_ok (c.fact 1), slotB_ok (c.fact 92)⟩
  st_own_rows_1 := ⟨sclsB_ok (c.fact 1), slotB_ok (c.fact 96)⟩
  st_own_sides_1 := ⟨sclsB_ok (c.fact 1), slotB_ok (c.fact 97)⟩
  st_own_tie_1 := ⟨sclsB_ok (c.fact 1), slotB_ok (c.fact 100)⟩
  f_is_whole := by
      obtain ⟨fd, F⟩ := c.def_ 0
      exact ⟨_, fd, F, He.glo_ok X G (c.fact 102)⟩
  f_is_integer := by
      obtain ⟨fd, F⟩ := c.def_ 1
      exact ⟨_, fd, F, He.glo_ok X G (c.fact 103)⟩
  f_is_state := by
      obtain ⟨fd, F⟩ := c.def_ 2
      exact ⟨_, fd, F, He.glo_ok X G (c.fact 104)⟩
  f_is_square := by
      obtain ⟨fd, F⟩ := c.def_ 3
      exact ⟨_, fd, F, He.glo_ok X G (c.fact 105)⟩
  f_are_states := by
      obtain ⟨fd, F⟩ := c.def_ 4
      exact ⟨_, fd, F, He.glo_ok X G (c.fact 106)⟩
  f_are_right := by
      obtain ⟨fd, F⟩ := c.def_ 5
      exact ⟨_, fd, F, He.glo_ok X G (c.fact 107)⟩
  f_Table_uinitu := by
      obtain ⟨fd, F⟩ := c.def_ 6
      exact ⟨_, fd, F, mkB_ok rfl (c.fact 108)⟩
  f_l_dice := by
      obtain ⟨fd, F⟩ := c.def_ 7
      exact ⟨_, fd, F, He.glo_ok X G (c.fact 109)⟩
  f_l_roll := by
      obtain ⟨fd, F⟩ := c.def_ 8
      exact ⟨_, fd, F, He.glo_ok X G (c.fact 110)⟩
  f_l_pick := by
      obtain ⟨fd, F⟩ := c.def_ 9
      exact ⟨_, fd, F, He.glo_ok X G (c.fact 111)⟩
  f_l_spoilt := by
      obtain ⟨fd, F⟩ := c.def_ 10
      exact ⟨_, fd, F, He.glo_ok X G (c.fact 112)⟩
  f_l_met := by
      obtain ⟨fd, F⟩ := c.def_ 11
      exact ⟨_, fd, F, He.glo_ok X G (c.fact 113)⟩
  f_l_parts_right := by
      obtain ⟨fd, F⟩ := c.def_ 12
      exact ⟨_, fd, F, He.glo_ok X G (c.fact 114)⟩
  f_Table_rows := by
      obtain ⟨fd, F⟩ := c.def_ 13
      exact ⟨_, fd, F, propB_ok rfl rfl (c.fact 115) (c.fact 1)⟩
  f_Building_uinitu := by
      obtain ⟨fd, F⟩ := c.def_ 14
      exact ⟨_, fd, F, mkB_ok rfl (c.fact 116)⟩
  f_Building_tie := by
      obtain ⟨fd, F⟩ := c.def_ 15
      exact ⟨_, fd, F, cmB_ok rfl rfl (c.fact 117)⟩
  f_require_building := by
      obtain ⟨fd, F⟩ := c.def_ 16
      exact ⟨_, fd, F, He.glo_ok X G (c.fact 118)⟩
  f_Building_parts := by
      obtain ⟨fd, F⟩ := c.def_ 17
      exact ⟨_, fd, F, propB_ok rfl rfl (c.fact 119) (c.fact 0)⟩
  f_state_in := by
      obtain ⟨fd, F⟩ := c.def_ 18
      exact ⟨_, fd, F, He.glo_ok X G (c.fact 120)⟩
  f_Table_state_of := by
      obtain ⟨fd, F⟩ := c.def_ 19
      exact ⟨_, fd, F, methB_ok rfl rfl (c.fact 121) (c.fact 1)⟩
  f_Table_accepts := by
      obtain ⟨fd, F⟩ := c.def_ 20
      exact ⟨_, fd, F, methB_ok rfl rfl (c.fact 122) (c.fact 1)⟩
  f_table_by := by
      obtain ⟨fd, F⟩ := c.def_ 21
      exact ⟨_, fd, F, He.glo_ok X G (c.fact 123)⟩
  f_renumbered_parts := by
      obtain ⟨fd, F⟩ := c.def_ 22
      exact ⟨_, fd, F, He.glo_ok X G (c.fact 124)⟩
  f_five_of := by
      obtain ⟨fd, F⟩ := c.def_ 23
      exact ⟨_, fd, F, He.glo_ok X G (c.fact 125)⟩
  f_Table_renumbered := by
      obtain ⟨fd, F⟩ := c.def_ 24
      exact ⟨_, fd, F, methB_ok rfl rfl (c.fact 126) (c.fact 1)⟩
  f_Table_with_accepted := by
      obtain ⟨fd, F⟩ := c.def_ 25
      exact ⟨_, fd, F, methB_ok rfl rfl (c.fact 127) (c.fact 1)⟩
  f_require_table := by
      obtain ⟨fd, F⟩ := c.def_ 26
      exact ⟨_, fd, F, He.glo_ok X G (c.fact 128)⟩
  f_results_of := by
      obtain ⟨fd, F⟩ := c.def_ 27
      exact ⟨_, fd, F, He.glo_ok X G (c.fact 129)⟩
  f_met_pairs := by
      obtain ⟨fd, F⟩ := c.def_ 28
      exact ⟨_, fd, F, He.glo_ok X G (c.fact 130)⟩
  f_is_kept := by
      obtain ⟨fd, F⟩ := c.def_ 29
      exact ⟨_, fd, F, He.glo_ok X G (c.fact 131)⟩
  f_joined_parts := by
      obtain ⟨fd, F⟩ := c.def_ 30
      exact ⟨_, fd, F, He.glo_ok X G (c.fact 132)⟩
  f_misread := by
      obtain ⟨fd, F⟩ := c.def_ 31
      exact ⟨_, fd, F, He.glo_ok X G (c.fact 133)⟩
  f_Table_ulenu := by
      obtain ⟨fd, F⟩ := c.def_ 32
      exact ⟨_, fd, F, dunB_ok rfl rfl (c.fact 134)⟩
  f_is_closed_set := by
      obtain ⟨fd, F⟩ := c.def_ 33
      exact ⟨_, fd, F, He.glo_ok X G (c.fact 135)⟩
  f_l_calls_right := by
      obtain ⟨fd, F⟩ := c.def_ 34
      exact ⟨_, fd, F, He.glo_ok X G (c.fact 136)⟩
  f_lawX := by
      obtain ⟨fd, F⟩ := c.def_ 35
      exact ⟨_, fd, F, He.glo_ok X G (c.fact 137)⟩
theorem ss_TooMany : SupS PySem.Challenge.rw_seamsayings_k50_errors_of_tables.prog si_TooMany sb_TooMany ("TooMany" ++ ".__init__") PySem.Challenge.rw_seamsayings_k50_errors_of_tables.prog.main.file := ⟨rfl, rfl, by decide +kernel, rfl, rfl, rfl, by decide +kernel, rfl, rfl, rfl, rfl, by decide +kernel, beq_self_eq_true _, fun _ _ _ _ _ _ _ us hl => match us, hl with | [_, _], _ => rfl, fun _ _ _ _ => rfl, fun _ _ _ _ => rfl, fun _ _ _ _ => rfl, fun _ _ _ _ => ⟨_, rfl⟩, by decide +kernel, by decide +kernel⟩
theorem txp {K : PySem.W.Frag} {wo : World} (c : SaysX cs fns fcs tabs wo K) : TxP PySem.Challenge.rw_seamsayings_k50_errors_of_tables.prog K (wd K wo) where
  x_TooMany := err_ok ss_TooMany rfl (c.m.1.fact 138) (c.cl 0).1 (c.cl 0).2 PySem.W.kxs_OverflowError (iniF_of PySem.F.excBase_OverflowError) (newF_of PySem.F.excBase_OverflowError) PySem.F.store_OverflowError.passes
end PM.G

namespace PM.G
open PySem PySem.Spec L2 PM
open PySem.PyData (strOk)
theorem seq_nx {a b : MS} {ρ ρ1 : En} (h : a ρ = .ok .nx ρ1) : mSeq a b ρ = b ρ1 := by unfold mSeq; rw [h]
theorem seq_rt {a b : MS} {ρ ρ1 : En} {x : Vl} (h : a ρ = .ok (.rt x) ρ1) : mSeq a b ρ = .ok (.rt x) ρ1 := by unfold mSeq; rw [h]
theorem loop_nx {g : MG} {b : MS} {d : D} {ds : List D} {ρ ρ1 ρ2 : En} (h : g d ρ = some ρ1) (h2 : b ρ1 = .ok .nx ρ2) : mLoop g b (d :: ds) ρ = mLoop g b ds ρ2 := by
  conv => lhs; unfold mLoop
  rw [h]
  simp only [h2]
theorem lenT (x : List D) : lenD (.tup x) = some (dI (x.length : Nat)) := rfl
theorem lenL (x : List D) : lenD (.lst x) = some (dI (x.length : Nat)) := rfl
theorem lenSc (x : List D) : lenD (.scr x) = some (dI (x.length : Nat)) := rfl
theorem big : sizeLine = 16777216 := rfl
theorem at0 {α : Type} (x : α) (xs : List α) : atI (x :: xs) 0 = some x := by simp [atI, ixN]
theorem at1 {α : Type} (x y : α) (xs : List α) : atI (x :: y :: xs) 1 = some y := by
  have : (1 : Int) < (xs.length : Int) + 1 + 1 := by omega
  simp [atI, ixN, this]
theorem at2 {α : Type} (x y z : α) (xs : List α) : atI (x :: y :: z :: xs) 2 = some z := by
  have : (2 : Int) < (xs.length : Int) + 1 + 1 + 1 := by omega
  simp [atI, ixN, this]
theorem l0 : Str.empty.length = 0 := rfl
theorem int2_int (g : Int → Int → Vl) (i j : Int) : int2 g (.int i) (.int j) = some (g i j) := rfl
theorem ltI_int (i j : Int) : ltI (.int i) (.int j) = some (dB (decide (i < j))) := rfl
theorem gtI_int (i j : Int) : gtI (.int i) (.int j) = some (dB (decide (j < i))) := rfl
def DiceK (k : Nat) (m : Mu) : Prop := ∃ a b c : Int, m = .lst [.int a, .int b, .int c] ∧ 0 ≤ a ∧ a < 10 ^ 121 ∧ 0 ≤ b ∧ b < 2 ^ 90 ∧ 0 ≤ c ∧ c ≤ k
theorem lg {n k : Nat} (h : n < 2 ^ k) (hk : 0 < k) : n.log2 < k := by
  by_cases e : n = 0
  · subst e
    exact hk
  · exact (Nat.log2_lt e).mpr h
theorem mul_ok {i j : Int} (hi : i.natAbs < 2 ^ 400) (hj : j.natAbs < 2 ^ 400) : mulD (.int i) (.int j) = some (dI (i * j)) := by
  have h1 := lg hi (by decide)
  have h2 := lg hj (by decide)
  unfold mulD int2c
  simp only
  rw [if_pos]
  unfold mulC
  exact decide_eq_true (by omega)
theorem mod_ok {i j : Int} (h : 0 < j) : modD (.int i) (.int j) = some (dI (i % j)) := by
  unfold modD int2c
  simp only
  rw [if_pos]
  exact decide_eq_true h
theorem div_ok {i j : Int} (h : 0 < j) (hj : j.natAbs < 2 ^ 400) : divD (.int i) (.int j) = some (dI (i / j)) := by
  have h2 := lg hj (by decide)
  unfold divD int2c
  simp only
  rw [if_pos]
  exact decide_eq_true ⟨h, by omega⟩
theorem n30 : ixN 3 0 = some 0 := rfl
theorem n32 : ixN 3 2 = some 2 := rfl
theorem roll_ok (m : Mu) (k : Nat) (t : Int) (ht : 0 < t) (ht2 : t < 2 ^ 250) (hk : k ≤ 1000000) (h : DiceK k m) : ∃ r m', fn_l_roll (some m) [.int t] = .ret (.int r, false) (some m') ∧ 0 ≤ r ∧ r < t ∧ DiceK (k + 1) m' := by
  obtain ⟨a, b, c, rfl, ha, ha2, hb, hb2, hc, hc2⟩ := h
  have d1 := div_ok (i := a) ht (by omega)
  have m1 := mod_ok (i := a) ht
  by_cases pos : 0 < a
  · have g : decide ((0 : Int) < a) = true := decide_eq_true pos
    refine ⟨a % t, .lst [.int (a / t), .int b, .int c], ?_, Int.emod_nonneg _ (by omega), Int.emod_lt_of_pos _ ht, a / t, b, c, rfl, ?_, ?_, hb, hb2, hc, by omega⟩
    · simp only [fn_l_roll, m_l_roll, mItemO, mBehind, mSetItem, at0, at1, at2, n30, gtI_int, g, m1, d1, noX, fnSem, en0, pre0, ioOf, mSeq, mIfS, mRet, mRetN, mAsg, mAsgO, mExpr, mNext, mDead, mTest, mAnd, mOr, mNot, mIf, mAndV, mOrV, mNotV, notD, mChain, mOp1, mOp2, mC, mVar, mCall, mCons, mNil, mTup, mLst, mStar, mCallV, mCallD, mPar, mAsgG, gT, gTs, gN, setV, notIo, nxt, Rs.bind, lift, asB, one1, two1, ixD, addD, subD, lenT, lenL, lenSc, tupD, intD, eq0, dI, dB, dS, List.length_cons, List.length_nil, List.map_cons, List.map_nil, List.append_nil, List.nil_append, List.cons_append, List.getElem?_cons_zero, List.getElem?_cons_succ, List.set_cons_zero, List.set_cons_succ, List.replicate, Option.bind_some, Option.map_some, Option.bind, Nat.zero_add, Nat.add_zero, Nat.reduceAdd, Nat.reduceSub, Nat.reduceEqDiff, if_true, if_false, reduceIte, Bool.false_eq_true, Bool.not_true, Bool.not_false, Nat.reduceLT, decide_true, decide_false, mSetF, clsAt, fldS, muOf, Sl.get, Sl.put, putD, mSetFs, fldsT, fldsS, allS, mMake, mMakeL, mCm, fnN, mJs, itSeq, mMeth, beq_self_eq_true, and_self, List.isEmpty_nil, List.isEmpty_cons, Option.map, big, Nat.reduceLeDiff, Nat.zero_le, Nat.le_refl]
    · exact Int.ediv_nonneg ha (by omega)
    · exact Int.lt_of_le_of_lt (Int.ediv_le_self _ ha) ha2
  · have g : decide ((0 : Int) < a) = false := decide_eq_false pos
    have e1 : mulD (.int 49979687) (.int (c + 1)) = some (dI (49979687 * (c + 1))) := mul_ok (by decide) (by omega)
    have e2 : modD (.int (b + 49979687 * (c + 1))) (.int 2305843009213693669) = some (dI ((b + 49979687 * (c + 1)) % 2305843009213693669)) := mod_ok (by decide)
    have o0 : 0 ≤ (b + 49979687 * (c + 1)) % 2305843009213693669 := Int.emod_nonneg _ (by decide)
    have o1 : (b + 49979687 * (c + 1)) % 2305843009213693669 < 2305843009213693669 := Int.emod_lt_of_pos _ (by decide)
    generalize (b + 49979687 * (c + 1)) % 2305843009213693669 = one at e2 o0 o1
    have e3 : mulD (.int one) (.int one) = some (dI (one * one)) := mul_ok (by omega) (by omega)
    have e4 : mulD (.int 89) (.int (c + 1)) = some (dI (89 * (c + 1))) := mul_ok (by decide) (by omega)
    have e5 : modD (.int (one * one + 89 * (c + 1))) (.int 2305843009213693907) = some (dI ((one * one + 89 * (c + 1)) % 2305843009213693907)) := mod_ok (by decide)
    have p0 : 0 ≤ (one * one + 89 * (c + 1)) % 2305843009213693907 := Int.emod_nonneg _ (by decide)
    have p1 : (one * one + 89 * (c + 1)) % 2305843009213693907 < 2305843009213693907 := Int.emod_lt_of_pos _ (by decide)
    generalize (one * one + 89 * (c + 1)) % 2305843009213693907 = pp at e5 p0 p1
    have e6 : mulD (.int pp) (.int 7368791) = some (dI (pp * 7368791)) := mul_ok (by omega) (by decide)
    have e7 : divD (.int (pp * 7368791 + one)) (.int 65536) = some (dI ((pp * 7368791 + one) / 65536)) := div_ok (by decide) (by decide)
    have e8 : modD (.int ((pp * 7368791 + one) / 65536)) (.int t) = some (dI ((pp * 7368791 + one) / 65536 % t)) := mod_ok ht
    refine ⟨(pp * 7368791 + one) / 65536 % t, .lst [.int a, .int b, .int (c + 1)], ?_, Int.emod_nonneg _ (by omega), Int.emod_lt_of_pos _ ht, a, b, c + 1, rfl, ha, ha2, hb, hb2, by omega, by omega⟩
    simp only [fn_l_roll, m_l_roll, mItemO, mBehind, mSetItem, at0, at1, at2, n32, gtI_int, g, e1, e2, e3, e4, e5, e6, e7, e8, noX, fnSem, en0, pre0, ioOf, mSeq, mIfS, mRet, mRetN, mAsg, mAsgO, mExpr, mNext, mDead, mTest, mAnd, mOr, mNot, mIf, mAndV, mOrV, mNotV, notD, mChain, mOp1, mOp2, mC, mVar, mCall, mCons, mNil, mTup, mLst, mStar, mCallV, mCallD, mPar, mAsgG, gT, gTs, gN, setV, notIo, nxt, Rs.bind, lift, asB, one1, two1, ixD, addD, subD, lenT, lenL, lenSc, tupD, intD, eq0, dI, dB, dS, List.length_cons, List.length_nil, List.map_cons, List.map_nil, List.append_nil, List.nil_append, List.cons_append, List.getElem?_cons_zero, List.getElem?_cons_succ, List.set_cons_zero, List.set_cons_succ, List.replicate, Option.bind_some, Option.map_some, Option.bind, Nat.zero_add, Nat.add_zero, Nat.reduceAdd, Nat.reduceSub, Nat.reduceEqDiff, if_true, if_false, reduceIte, Bool.false_eq_true, Bool.not_true, Bool.not_false, Nat.reduceLT, decide_true, decide_false, mSetF, clsAt, fldS, muOf, Sl.get, Sl.put, putD, mSetFs, fldsT, fldsS, allS, mMake, mMakeL, mCm, fnN, mJs, itSeq, mMeth, beq_self_eq_true, and_self, List.isEmpty_nil, List.isEmpty_cons, Option.map, big, Nat.reduceLeDiff, Nat.zero_le, Nat.le_refl]
theorem pow_ok {i j : Int} (h : 0 ≤ j) (h1 : j ≤ 1000000) (h2 : i.natAbs < 2 ^ 64) : powD (.int i) (.int j) = some (dI (i ^ j.toNat)) := by
  unfold powD int2c
  simp only
  rw [if_pos]
  exact decide_eq_true ⟨h, h1, h2⟩
theorem p16 : powD (.int 10) (.int 16) = some (dI (10 ^ 16)) := pow_ok (by decide) (by decide) (by decide)
theorem p60 : powD (.int 10) (.int 60) = some (dI (10 ^ 60)) := pow_ok (by decide) (by decide) (by decide)
theorem pm120 : mulD (.int (10 ^ 60)) (.int (10 ^ 60)) = some (dI (10 ^ 60 * 10 ^ 60)) := mul_ok (by decide) (by decide)
theorem abs_eq (i : Int) : absD (.int i) = some (dI (if i < 0 then -i else i)) := rfl
theorem maxD_int (i j : Int) : maxD (.int i) (.int j) = some (dI (if j > i then j else i)) := rfl
theorem minD_int (i j : Int) : minD (.int i) (.int j) = some (dI (if j < i then j else i)) := rfl
theorem intB_ (b : Bool) : intD (.bl b) = some (dI (if b then 1 else 0)) := rfl
theorem dice_core (ns : List D) (s : Nat) (hs : s < 63) (x : Int) (hx : (mIf (mTest (mOp2 ltI (mVar 1) (mCall (one1 lenD) (mCons (mVar 0) mNil)))) (mCall (one1 intD) (mCons (mOp2 ixD (mVar 0) (mVar 1)) mNil)) (mOp2 addD (mOp2 mulD (mC (.int 61)) (mVar 1)) (mC (.int 17)))) [.val (.scr ns), .val (.int s), .non, .non] = .ok (.int x, false) [.val (.scr ns), .val (.int s), .non, .non]) :
    ∃ m, fn_l_dice none [.scr ns, .int s] = .ret (.lst m, true) none ∧ DiceK 0 (.lst m) := by
  have a0 : 0 ≤ (if x < 0 then -x else x) := by split <;> omega
  generalize ea : (if x < 0 then -x else x) = ax at a0
  have e1 := abs_eq x
  rw [ea] at e1
  generalize em : (if ax - 10 ^ 16 > 0 then ax - 10 ^ 16 else 0) = mx
  have e2 := maxD_int 0 (ax - 10 ^ 16)
  rw [em] at e2
  have e3 : modD (.int mx) (.int (10 ^ 60 * 10 ^ 60)) = some (dI (mx % (10 ^ 60 * 10 ^ 60))) := mod_ok (by decide)
  have c0 : 0 ≤ mx % (10 ^ 60 * 10 ^ 60) := Int.emod_nonneg _ (by decide)
  have c1 : mx % (10 ^ 60 * 10 ^ 60) < 10 ^ 60 * 10 ^ 60 := Int.emod_lt_of_pos _ (by decide)
  generalize mx % (10 ^ 60 * 10 ^ 60) = cx at e3 c0 c1
  have e4 : modD (.int ax) (.int 1152921504606846869) = some (dI (ax % 1152921504606846869)) := mod_ok (by decide)
  have d0 : 0 ≤ ax % 1152921504606846869 := Int.emod_nonneg _ (by decide)
  have d1 : ax % 1152921504606846869 < 1152921504606846869 := Int.emod_lt_of_pos _ (by decide)
  generalize ax % 1152921504606846869 = dx at e4 d0 d1
  have e5 : mulD (.int dx) (.int 43) = some (dI (dx * 43)) := mul_ok (by omega) (by decide)
  have e6 : mulD (.int 811) (.int s) = some (dI (811 * (s : Int))) := mul_ok (by decide) (by omega)
  have e7 := intB_ (decide (x < 0))
  have e8 : mulD (.int 29) (.int (if decide (x < 0) = true then 1 else 0)) = some (dI (29 * (if decide (x < 0) = true then 1 else 0))) := mul_ok (by decide) (by split <;> decide)
  generalize ez : (29 * (if decide (x < 0) = true then 1 else 0) : Int) = zx at e8
  have z0 : 0 ≤ zx ∧ zx ≤ 29 := by
    rw [← ez]
    split <;> omega
  refine ⟨[.int cx, .int (dx * 43 + 811 * (s : Int) + zx + 5), .int 0], ?_, cx, dx * 43 + 811 * (s : Int) + zx + 5, 0, rfl, c0, ?_, by omega, by omega, by decide, by decide⟩
  · have st : (mAsg 2 (mIf (mTest (mOp2 ltI (mVar 1) (mCall (one1 lenD) (mCons (mVar 0) mNil)))) (mCall (one1 intD) (mCons (mOp2 ixD (mVar 0) (mVar 1)) mNil)) (mOp2 addD (mOp2 mulD (mC (.int 61)) (mVar 1)) (mC (.int 17))))) [.val (.scr ns), .val (.int s), .non, .non] = .ok .nx [.val (.scr ns), .val (.int s), .val (.int x), .non] := by
      unfold mAsg
      rw [hx]
      rfl
    have body : m_l_dice [.val (.scr ns), .val (.int s), .non, .non] = .ok (.rt (.lst [.int cx, .int (dx * 43 + 811 * (s : Int) + zx + 5), .int 0], true)) [.val (.scr ns), .val (.int s), .val (.int x), .val (.int cx)] := by
      unfold m_l_dice mSeq
      rw [st]
      simp only [e1, e2, e3, e4, e5, e6, e7, e8, p16, p60, pm120, ltI_int, int2_int, noX, fnSem, en0, pre0, ioOf, mSeq, mIfS, mRet, mRetN, mAsg, mAsgO, mExpr, mNext, mDead, mTest, mAnd, mOr, mNot, mIf, mAndV, mOrV, mNotV, notD, mChain, mOp1, mOp2, mC, mVar, mCall, mCons, mNil, mTup, mLst, mStar, mCallV, mCallD, mPar, mAsgG, gT, gTs, gN, setV, notIo, nxt, Rs.bind, lift, asB, one1, two1, ixD, addD, subD, lenT, lenL, lenSc, tupD, intD, eq0, dI, dB, dS, List.length_cons, List.length_nil, List.map_cons, List.map_nil, List.append_nil, List.nil_append, List.cons_append, List.getElem?_cons_zero, List.getElem?_cons_succ, List.set_cons_zero, List.set_cons_succ, List.replicate, Option.bind_some, Option.map_some, Option.bind, Nat.zero_add, Nat.add_zero, Nat.reduceAdd, Nat.reduceSub, Nat.reduceEqDiff, if_true, if_false, reduceIte, Bool.false_eq_true, Bool.not_true, Bool.not_false, Nat.reduceLT, decide_true, decide_false, mSetF, clsAt, fldS, muOf, Sl.get, Sl.put, putD, mSetFs, fldsT, fldsS, allS, mMake, mMakeL, mCm, fnN, mJs, itSeq, mMeth, beq_self_eq_true, and_self, List.isEmpty_nil, List.isEmpty_cons, Option.map, big, Nat.reduceLeDiff, Nat.zero_le, Nat.le_refl]
    simp only [fn_l_dice, body, noX, fnSem, en0, pre0, ioOf, mSeq, mIfS, mRet, mRetN, mAsg, mAsgO, mExpr, mNext, mDead, mTest, mAnd, mOr, mNot, mIf, mAndV, mOrV, mNotV, notD, mChain, mOp1, mOp2, mC, mVar, mCall, mCons, mNil, mTup, mLst, mStar, mCallV, mCallD, mPar, mAsgG, gT, gTs, gN, setV, notIo, nxt, Rs.bind, lift, asB, one1, two1, ixD, addD, subD, lenT, lenL, lenSc, tupD, intD, eq0, dI, dB, dS, List.length_cons, List.length_nil, List.map_cons, List.map_nil, List.append_nil, List.nil_append, List.cons_append, List.getElem?_cons_zero, List.getElem?_cons_succ, List.set_cons_zero, List.set_cons_succ, List.replicate, Option.bind_some, Option.map_some, Option.bind, Nat.zero_add, Nat.add_zero, Nat.reduceAdd, Nat.reduceSub, Nat.reduceEqDiff, if_true, if_false, reduceIte, Bool.false_eq_true, Bool.not_true, Bool.not_false, Nat.reduceLT, decide_true, decide_false, mSetF, clsAt, fldS, muOf, Sl.get, Sl.put, putD, mSetFs, fldsT, fldsS, allS, mMake, mMakeL, mCm, fnN, mJs, itSeq, mMeth, beq_self_eq_true, and_self, List.isEmpty_nil, List.isEmpty_cons, Option.map, big, Nat.reduceLeDiff, Nat.zero_le, Nat.le_refl]
  · have : (10 ^ 60 * 10 ^ 60 : Int) ≤ 10 ^ 121 := by decide
    omega
theorem dice_ok (ns : List Int) (s : Nat) (hs : s < 63) : ∃ m, fn_l_dice none [.scr (ns.map D.int), .int s] = .ret (.lst m, true) none ∧ DiceK 0 (.lst m) := by
  by_cases h : s < ns.length
  · refine dice_core _ s hs ns[s] ?_
    have d : decide ((s : Int) < ((ns.map D.int).length : Nat)) = true := decide_eq_true (by rw [List.length_map]; omega)
    have ea : atI (ns.map D.int) (s : Int) = some (.int ns[s]) := by
      unfold atI ixN
      rw [if_pos (by omega), if_pos (by rw [List.length_map]; omega)]
      simp [h]
    simp only [ltI_int, d, ea, noX, fnSem, en0, pre0, ioOf, mSeq, mIfS, mRet, mRetN, mAsg, mAsgO, mExpr, mNext, mDead, mTest, mAnd, mOr, mNot, mIf, mAndV, mOrV, mNotV, notD, mChain, mOp1, mOp2, mC, mVar, mCall, mCons, mNil, mTup, mLst, mStar, mCallV, mCallD, mPar, mAsgG, gT, gTs, gN, setV, notIo, nxt, Rs.bind, lift, asB, one1, two1, ixD, addD, subD, lenT, lenL, lenSc, tupD, intD, eq0, dI, dB, dS, List.length_cons, List.length_nil, List.map_cons, List.map_nil, List.append_nil, List.nil_append, List.cons_append, List.getElem?_cons_zero, List.getElem?_cons_succ, List.set_cons_zero, List.set_cons_succ, List.replicate, Option.bind_some, Option.map_some, Option.bind, Nat.zero_add, Nat.add_zero, Nat.reduceAdd, Nat.reduceSub, Nat.reduceEqDiff, if_true, if_false, reduceIte, Bool.false_eq_true, Bool.not_true, Bool.not_false, Nat.reduceLT, decide_true, decide_false, mSetF, clsAt, fldS, muOf, Sl.get, Sl.put, putD, mSetFs, fldsT, fldsS, allS, mMake, mMakeL, mCm, fnN, mJs, itSeq, mMeth, beq_self_eq_true, and_self, List.isEmpty_nil, List.isEmpty_cons, Option.map, big, Nat.reduceLeDiff, Nat.zero_le, Nat.le_refl]
  · refine dice_core _ s hs (61 * (s : Int) + 17) ?_
    have d : decide ((s : Int) < ((ns.map D.int).length : Nat)) = false := decide_eq_false (by rw [List.length_map]; omega)
    have e : mulD (.int 61) (.int s) = some (dI (61 * (s : Int))) := mul_ok (by decide) (by omega)
    simp only [ltI_int, d, e, noX, fnSem, en0, pre0, ioOf, mSeq, mIfS, mRet, mRetN, mAsg, mAsgO, mExpr, mNext, mDead, mTest, mAnd, mOr, mNot, mIf, mAndV, mOrV, mNotV, notD, mChain, mOp1, mOp2, mC, mVar, mCall, mCons, mNil, mTup, mLst, mStar, mCallV, mCallD, mPar, mAsgG, gT, gTs, gN, setV, notIo, nxt, Rs.bind, lift, asB, one1, two1, ixD, addD, subD, lenT, lenL, lenSc, tupD, intD, eq0, dI, dB, dS, List.length_cons, List.length_nil, List.map_cons, List.map_nil, List.append_nil, List.nil_append, List.cons_append, List.getElem?_cons_zero, List.getElem?_cons_succ, List.set_cons_zero, List.set_cons_succ, List.replicate, Option.bind_some, Option.map_some, Option.bind, Nat.zero_add, Nat.add_zero, Nat.reduceAdd, Nat.reduceSub, Nat.reduceEqDiff, if_true, if_false, reduceIte, Bool.false_eq_true, Bool.not_true, Bool.not_false, Nat.reduceLT, decide_true, decide_false, mSetF, clsAt, fldS, muOf, Sl.get, Sl.put, putD, mSetFs, fldsT, fldsS, allS, mMake, mMakeL, mCm, fnN, mJs, itSeq, mMeth, beq_self_eq_true, and_self, List.isEmpty_nil, List.isEmpty_cons, Option.map, big, Nat.reduceLeDiff, Nat.zero_le, Nat.le_refl]
theorem rng1_ok (i : Int) (h : 0 ≤ i) (h' : i < 1000) : rng1 [.int i] = some (rgL 0 i.toNat) := by
  show (if -(2 ^ 62) ≤ i ∧ i < 2 ^ 62 then some (rgL 0 i.toNat) else none) = _
  rw [if_pos ⟨by omega, by omega⟩]
/-! ### the signs that come -/
/-! ### comprehensions with a test -/
/-! ### a list compared with [] -/
/-! ### texts cut and joined -/
/-! ### a comprehension that rolls the dice -/
theorem ret_io2 {n k : Nat} {b : MS} {m m' : Mu} {x : Vl} {ρ : En} {ds : List D} (hk : (pre0 (some m)).length + ds.length = k) (h : b (en0 n (some m) ds) = .ok (.rt x) ρ) (h0 : ρ[0]? = some (.io m')) : noX (fnSem n k b) (some m) ds = .ret x (some m') := by
  unfold noX fnSem
  rw [if_pos hk, h]
  simp only [ioOf, h0]
theorem ret_nn {n k : Nat} {b : MS} {x : Vl} {ρ : En} {ds : List D} (hk : (pre0 none).length + ds.length = k) (h : b (en0 n none ds) = .ok (.rt x) ρ) : fnSem n k b none ds = .ret x none := by
  unfold fnSem
  rw [if_pos hk, h]
  rfl
/-! ### the law's word for it -/
/-! ### mixed -/
theorem itA_rng {me : ME} {ρ ρ' : En} {i : Int} {b : Bool} {L : List D} (h : me ρ = .ok (.int i, b) ρ') (rg : rng1 [.int i] = some L) : mItA rng1 (mCons me mNil) ρ = .ok L ρ' := by
  unfold mItA mCons mNil
  rw [h]
  simp only [Rs.bind]
  rw [rg]
  rfl
/-! ### some -/
end PM.G

namespace PM.G
open PySem PySem.Spec L2 PM
open PySem.PyData (strOk)
theorem gN_set (j : Nat) (d : D) (ρ : En) (h : notIo (ρ[j]?) = true) : gN j d ρ = some (ρ.set j (.val d)) := by
  unfold gN setV
  rw [if_pos h]
/-! ### squares -/
/-! ### closed sets -/
/-! ### closed sets, judged -/
theorem nx_ret {n k : Nat} {b : MS} {x : Vl} {ρ : En} {ds : List D} (hk : ds.length = k) (h : b (en0 n none ds) = .ok (.rt x) ρ) : noX (fnSem n k b) none ds = .ret x none := by
  have hk' : (pre0 none).length + ds.length = k := by
    show 0 + ds.length = k
    omega
  unfold noX
  rw [ret_nn hk' h]
/-! ### the law's word -/
/-! ### states and sets of states -/
/-! ### values that are no closed sets -/
theorem op2_eq {f : D → D → Option (D × Bool)} {ma mb : ME} {ρ ρ1 ρ2 : En} {x y : D} {p q : Bool} {z : D × Bool} (h1 : ma ρ = .ok (x, p) ρ1) (h2 : mb ρ1 = .ok (y, q) ρ2) (h3 : f x y = some z) : mOp2 f ma mb ρ = .ok z ρ2 := by
  unfold mOp2
  rw [h1]
  show ((mb ρ1).bind _) = _
  rw [h2]
  show lift (f x y) ρ2 = _
  rw [h3]
  rfl
theorem asgO_eq {i : Nat} {m : ME} {ρ ρ1 : En} {l : List D} (h1 : m ρ = .ok (.lst l, true) ρ1) (h2 : notIo (ρ1[i]?) = true) : mAsgO i m ρ = .ok .nx (ρ1.set i (.own (.lst l))) := by
  unfold mAsgO
  rw [h1]
  show nxt (setO i _ _) = _
  unfold setO
  rw [if_pos h2]
  rfl
theorem ret_eq {m : ME} {ρ ρ1 : En} {z : D × Bool} (h1 : m ρ = .ok z ρ1) : mRet m ρ = .ok (.rt z) ρ1 := by
  unfold mRet
  rw [h1]
  rfl
theorem ifs_no {mt : MT} {a : MS} {ρ ρ' : En} (h : mt ρ = .ok false ρ') : mIfS mt a mNext ρ = .ok .nx ρ' := by
  unfold mIfS
  rw [h]
  rfl
theorem tst_eq {m : ME} {ρ ρ' : En} {b c : Bool} (h : m ρ = .ok (.bl b, c) ρ') : mTest m ρ = .ok b ρ' := by
  unfold mTest
  rw [h]
  rfl
/-! ### signs -/
theorem asg_eq {i : Nat} {m : ME} {ρ ρ1 : En} {x : D} {c : Bool} (h : m ρ = .ok (x, c) ρ1) (hj : notIo (ρ1[i]?) = true) : mAsg i m ρ = .ok .nx (ρ1.set i (.val x)) := by
  unfold mAsg
  rw [h]
  show nxt (setV i x ρ1) = _
  unfold setV
  rw [if_pos hj]
  rfl
/-! ### marks, numbered anew -/
/-! ### leaders -/
/-! ### the least table -/
/-! ### the walk -/
theorem callV2_eq {f : Fn} {m1 m2 : ME} {ρ ρ1 ρ2 : En} {x y : D} {c c' : Bool} {z : Vl} (h1 : m1 ρ = .ok (x, c) ρ1) (h2 : m2 ρ1 = .ok (y, c') ρ2) (h : f none [x, y] = .ret z none) : mCallV f (mCons m1 (mCons m2 mNil)) ρ = .ok z ρ2 := by
  unfold mCallV mCons mNil
  simp only [h1, h2, Rs.bind, h]
theorem not_eq {t : MT} {ρ ρ' : En} {b : Bool} (h : t ρ = .ok b ρ') : mNot t ρ = .ok (!b) ρ' := by
  unfold mNot
  rw [h]
  rfl
theorem or_ff {a b : MT} {ρ ρ1 ρ2 : En} (h1 : a ρ = .ok false ρ1) (h2 : b ρ1 = .ok false ρ2) : mOr a b ρ = .ok false ρ2 := by
  unfold mOr
  rw [h1]
  exact h2
theorem callD1_eq {f : Fn} {m1 : ME} {ρ : En} {m m' : Mu} {x : D} {c : Bool} {z : Vl} {tl : En} (e : ρ = .io m :: tl) (h1 : m1 ρ = .ok (x, c) ρ) (h : f (some m) [x] = .ret z (some m')) : mCallD f 0 (mCons m1 mNil) ρ = .ok z (.io m' :: tl) := by
  have mu : muOf 0 ρ = some (.io m, m) := by rw [e]; rfl
  unfold mCallD mCons mNil
  simp only [mu, h1, Rs.bind, h]
  rw [e]
  rfl
/-! ### the dict of places -/
theorem callD1b {f : Fn} {m1 : ME} {ρ ρ1 : En} {m m' : Mu} {x : D} {c : Bool} {z : Vl} {tl : En} {m0 : Mu} {tl0 : En} (e0 : ρ = .io m0 :: tl0) (e : ρ1 = .io m :: tl) (h1 : m1 ρ = .ok (x, c) ρ1) (h : f (some m) [x] = .ret z (some m')) : mCallD f 0 (mCons m1 mNil) ρ = .ok z (.io m' :: tl) := by
  have mu0 : muOf 0 ρ = some (.io m0, m0) := by rw [e0]; rfl
  have mu : muOf 0 ρ1 = some (.io m, m) := by rw [e]; rfl
  unfold mCallD mCons mNil
  simp only [mu0, mu, h1, Rs.bind, h]
  rw [e]
  rfl
/-! ### one turn of the drawn buildings -/
def yesR : Rs Fl → Bool
  | .ok (.rt (.bl true, false)) _ => true
  | _ => false
theorem yes_some {r : Rs Fl} (h : yesR r = true) : ∃ ρ, r = .ok (.rt (.bl true, false)) ρ := by
  unfold yesR at h
  split at h
  · exact ⟨_, rfl⟩
  · cases h
end PM.G
namespace PM.G
open PySem PySem.Spec L2 PM

def VN : Sl → Prop
  | .non => True
  | .val _ => True
  | _ => False
theorem VN.io {s : Sl} (h : VN s) : notIo (some s) = true := by
  cases s <;> first | rfl | exact h.elim
theorem lg9 {xs : List D} {c : Nat} (h : c < xs.length) : atI xs (c : Int) = some xs[c] := by
  unfold atI ixN
  rw [if_pos (by omega), if_pos (by omega)]
  simp [h]
theorem pick_ok (m : Mu) (k : Nat) (xs : List D) (h0 : xs ≠ []) (hl : xs.length ≤ 1000) (hk : k ≤ 1000000) (hd : DiceK k m) : ∃ d m', d ∈ xs ∧ fn_l_pick (some m) [.lst xs] = .ret (d, false) (some m') ∧ DiceK (k + 1) m' := by
  have lp : 0 < xs.length := List.length_pos_iff.mpr h0
  obtain ⟨r, m1, e, r0, r1, d⟩ := roll_ok m k (xs.length : Nat) (by omega) (by omega) hk hd
  obtain ⟨c, hc⟩ := Int.eq_ofNat_of_zero_le r0
  subst hc
  have lt : c < xs.length := by omega
  have ea := lg9 lt
  refine ⟨xs[c], m1, List.getElem_mem lt, ?_, d⟩
  simp only [fn_l_pick, m_l_pick, e, ea, noX, fnSem, en0, pre0, ioOf, mSeq, mIfS, mRet, mRetN, mAsg, mAsgO, mExpr, mNext, mDead, mTest, mAnd, mOr, mNot, mIf, mAndV, mOrV, mNotV, notD, mChain, mOp1, mOp2, mC, mVar, mCall, mCons, mNil, mTup, mLst, mStar, mCallV, mCallD, mPar, mAsgG, gT, gTs, gN, setV, notIo, nxt, Rs.bind, lift, asB, one1, two1, ixD, addD, subD, lenT, lenL, lenSc, tupD, intD, eq0, dI, dB, dS, List.length_cons, List.length_nil, List.map_cons, List.map_nil, List.append_nil, List.nil_append, List.cons_append, List.getElem?_cons_zero, List.getElem?_cons_succ, List.set_cons_zero, List.set_cons_succ, List.replicate, Option.bind_some, Option.map_some, Option.bind, Nat.zero_add, Nat.add_zero, Nat.reduceAdd, Nat.reduceSub, Nat.reduceEqDiff, if_true, if_false, reduceIte, Bool.false_eq_true, Bool.not_true, Bool.not_false, Nat.reduceLT, decide_true, decide_false, mSetF, clsAt, fldS, muOf, Sl.get, Sl.put, putD, mSetFs, fldsT, fldsS, allS, mMake, mMakeL, mCm, fnN, mJs, itSeq, mMeth, beq_self_eq_true, and_self, List.isEmpty_nil, List.isEmpty_cons, Option.map, big, Nat.reduceLeDiff, Nat.zero_le, Nat.le_refl]
/-- one draw -/
theorem draw {m : Mu} {k i : Nat} {xs : List D} {L : ME} {tl : En} (hL : ∀ m, L (.io m :: tl) = .ok (.lst xs, true) (.io m :: tl)) (h0 : xs ≠ []) (hl : xs.length ≤ 1000) (hk : k ≤ 1000000) (hd : DiceK k m) (hi : notIo (tl[i]?) = true) :
    ∃ d m', d ∈ xs ∧ DiceK (k + 1) m' ∧ mAsg (i + 1) (mCallD fn_l_pick 0 (mCons L mNil)) (.io m :: tl) = .ok .nx (.io m' :: tl.set i (.val d)) := by
  obtain ⟨d, m', hm, e, dk⟩ := pick_ok m k xs h0 hl hk hd
  refine ⟨d, m', hm, dk, ?_⟩
  have := asg_eq (i := i + 1) (callD1_eq (tl := tl) rfl (hL m) e) (by simpa using hi)
  simpa using this

/-- what stands in a slot at the end -/
def lastS (r : Rs Fl) (i : Nat) : Sl := match r with
  | .ok _ ρ => ρ.getD i .non
  | _ => .non
theorem map_at {α β : Type} {f g : α → β} {l : List α} (h : l.map f = l.map g) : ∀ a ∈ l, f a = g a := List.map_inj_left.mp h
theorem lst_eq {mr : MA} {ρ ρ1 : En} {ds : List D} (h : mr ρ = .ok ds ρ1) (hl : ds.length ≤ 1000) : mLst mr ρ = .ok (.lst ds, true) ρ1 := by
  unfold mLst
  rw [h]
  show (if ds.length ≤ sizeLine then (.ok (.lst ds, true) ρ1 : Rs Vl) else .stuck) = _
  rw [if_pos (by rw [big]; omega)]
theorem cons1 {m : ME} {ρ ρ1 : En} {x : D} {b : Bool} (h : m ρ = .ok (x, b) ρ1) : mCons m mNil ρ = .ok [x] ρ1 := by
  unfold mCons mNil
  rw [h]
  rfl
theorem cons2 {m m' : ME} {ρ ρ1 ρ2 : En} {x y : D} {b b' : Bool} (h : m ρ = .ok (x, b) ρ1) (h' : m' ρ1 = .ok (y, b') ρ2) : mCons m (mCons m' mNil) ρ = .ok [x, y] ρ2 := by
  simp only [mCons, mNil, h, h', Rs.bind]
theorem tup_2 {m m' : ME} {ρ ρ1 ρ2 : En} {x y : D} {b b' : Bool} (h : m ρ = .ok (x, b) ρ1) (h' : m' ρ1 = .ok (y, b') ρ2) : mTup (mCons m (mCons m' mNil)) ρ = .ok (.tup [x, y], false) ρ2 := by
  unfold mTup
  rw [cons2 h h']
  rfl
theorem asgG_eq {g : MG} {m : ME} {ρ ρ1 ρ2 : En} {x : D} {c : Bool} (h : m ρ = .ok (x, c) ρ1) (h2 : g x ρ1 = some ρ2) : mAsgG g m ρ = .ok .nx ρ2 := by
  unfold mAsgG
  rw [h]
  simp only [Rs.bind, h2]
  rfl

abbrev partL : List D := [.int 1, .int 0, .tup [.tup [.int 0, .int 1], .tup [.int 1, .int 1]], .tup [.tup [.int 0, .int 0], .tup [.int 0, .int 1]], .tup [.int 1]]
abbrev w01 : List D := [.non, .bl true, .int 2, .int (-1), .str "0", .tup [.int 0], .int (10 ^ 60), .lst []]
abbrev w23 : List D := [.non, .tup [], .tup [.tup [.int 0, .int 1]], .lst [.lst [.int 0, .int 1], .lst [.int 1, .int 1]], .tup [.tup [.int 0, .int 1], .lst [.int 1, .int 1]], .tup [.tup [.int 0, .int 1], .tup [.int 1, .int 2]], .tup [.tup [.int 0, .int 1], .tup [.int 1, .bl true]], .tup [.tup [.int 0, .int 1], .tup [.int 1, .int 1], .tup [.int 0, .int 0]], .tup [.tup [.int 0, .int 1, .int 0], .tup [.int 1, .int 1, .int 0]], .str "01", .dct [] [], .int 0, .tup [.tup [.int 0, .int 1], .tup [.int 1, .int (-1)]], .tup [.tup [.int 0, .int 1], .tup [.int 1, .non]]]
abbrev w4 : List D := [.non, .lst [.int 1], .tup [.int 1, .int 0], .tup [.int 0, .int 0], .tup [.int 2], .tup [.bl true], .tup [.int (-1)], .str "1", .int 1, .dct [] [], .tup [.non]]
def sp0 : MS := (mAsg 1 (mLst (mCons (mC (.int 1)) (mCons (mC (.int 0)) (mCons (mTup (mCons (mTup (mCons (mC (.int 0)) (mCons (mC (.int 1)) mNil))) (mCons (mTup (mCons (mC (.int 1)) (mCons (mC (.int 1)) mNil))) mNil))) (mCons (mTup (mCons (mTup (mCons (mC (.int 0)) (mCons (mC (.int 0)) mNil))) (mCons (mTup (mCons (mC (.int 0)) (mCons (mC (.int 1)) mNil))) mNil))) (mCons (mTup (mCons (mC (.int 1)) mNil)) mNil)))))))
def sp1 : MS := (mAsg 2 (mCallD fn_l_roll 0 (mCons (mC (.int 7)) mNil)))
def sp2 : MS := (mIfS (mTest (mOp2 gtI (mVar 2) (mC (.int 4)))) (mRet (mTup (mCons (mVar 1) (mCons (mC (.bl true)) mNil)))) mNext)
def sp3 : MS := (mIfS (mTest (mOp2 ltI (mVar 2) (mC (.int 2)))) (mAsgO 3 (mLst (mCons (mC .non) (mCons (mC (.bl true)) (mCons (mC (.int 2)) (mCons (mOp1 negD (mC (.int 1))) (mCons (mC (.str "0")) (mCons (mTup (mCons (mC (.int 0)) mNil)) (mCons (mOp2 powD (mC (.int 10)) (mC (.int 60))) (mCons (mLst mNil) mNil)))))))))) (mIfS (mTest (mOp2 ltI (mVar 2) (mC (.int 4)))) (mSeq (mAsgO 3 (mLst (mCons (mC .non) (mCons (mTup mNil) (mCons (mTup (mCons (mTup (mCons (mC (.int 0)) (mCons (mC (.int 1)) mNil))) mNil)) (mCons (mLst (mCons (mLst (mCons (mC (.int 0)) (mCons (mC (.int 1)) mNil))) (mCons (mLst (mCons (mC (.int 1)) (mCons (mC (.int 1)) mNil))) mNil))) (mCons (mTup (mCons (mTup (mCons (mC (.int 0)) (mCons (mC (.int 1)) mNil))) (mCons (mLst (mCons (mC (.int 1)) (mCons (mC (.int 1)) mNil))) mNil))) (mCons (mTup (mCons (mTup (mCons (mC (.int 0)) (mCons (mC (.int 1)) mNil))) (mCons (mTup (mCons (mC (.int 1)) (mCons (mC (.int 2)) mNil))) mNil))) (mCons (mTup (mCons (mTup (mCons (mC (.int 0)) (mCons (mC (.int 1)) mNil))) (mCons (mTup (mCons (mC (.int 1)) (mCons (mC (.bl true)) mNil))) mNil))) mNil)))))))))
    (mSeq (mAsgO 3 (mOp2 addD (mGive 3) (mLst (mCons (mTup (mCons (mTup (mCons (mC (.int 0)) (mCons (mC (.int 1)) mNil))) (mCons (mTup (mCons (mC (.int 1)) (mCons (mC (.int 1)) mNil))) (mCons (mTup (mCons (mC (.int 0)) (mCons (mC (.int 0)) mNil))) mNil)))) (mCons (mTup (mCons (mTup (mCons (mC (.int 0)) (mCons (mC (.int 1)) (mCons (mC (.int 0)) mNil)))) (mCons (mTup (mCons (mC (.int 1)) (mCons (mC (.int 1)) (mCons (mC (.int 0)) mNil)))) mNil))) (mCons (mC (.str "01")) (mCons mDct0 (mCons (mC (.int 0)) (mCons (mTup (mCons (mTup (mCons (mC (.int 0)) (mCons (mC (.int 1)) mNil))) (mCons (mTup (mCons (mC (.int 1)) (mCons (mOp1 negD (mC (.int 1))) mNil))) mNil))) mNil)))))))))
    (mExpr (mAppend 3 (mCons (mTup (mCons (mTup (mCons (mC (.int 0)) (mCons (mC (.int 1)) mNil))) (mCons (mTup (mCons (mC (.int 1)) (mCons (mC .non) mNil))) mNil))) mNil))))) (mAsgO 3 (mLst (mCons (mC .non) (mCons (mLst (mCons (mC (.int 1)) mNil)) (mCons (mTup (mCons (mC (.int 1)) (mCons (mC (.int 0)) mNil))) (mCons (mTup (mCons (mC (.int 0)) (mCons (mC (.int 0)) mNil))) (mCons (mTup (mCons (mC (.int 2)) mNil)) (mCons (mTup (mCons (mC (.bl true)) mNil)) (mCons (mTup (mCons (mOp1 negD (mC (.int 1))) mNil)) (mCons (mC (.str "1")) (mCons (mC (.int 1)) (mCons mDct0 (mCons (mTup (mCons (mC .non) mNil)) mNil)))))))))))))))
def sl1 : ME := (mSl (mVar 1) mNo (mPart (mVar 2)))
def sl2 : ME := (mSl (mVar 1) (mPart (mOp2 addD (mVar 2) (mC (.int 1)))) mNo)
theorem spoilt_split : m_l_spoilt = mSeq sp0 (mSeq sp1 (mSeq sp2 (mSeq sp3 (mRet (mTup (mCons (mOp2 addD (mOp2 addD sl1 (mLst (mCons (mCallD fn_l_pick 0 (mCons (mGive 3) mNil)) mNil))) sl2) (mCons (mC (.bl false)) mNil))))))) := rfl
theorem sp0_eq (m : Mu) : sp0 [.io m, .non, .non, .non] = .ok .nx [.io m, .val (.lst partL), .non, .non] := by kernel_rfl
abbrev sf (m : Mu) (r : Int) (s : Sl) : En := [.io m, .val (.lst partL), .val (.int r), s]
theorem sp1_eq {m m' : Mu} {r : Int} (e : fn_l_roll (some m) [.int 7] = .ret (.int r, false) (some m')) : sp1 [.io m, .val (.lst partL), .non, .non] = .ok .nx (sf m' r .non) := by
  unfold sp1
  have := asg_eq (i := 2) (callD1_eq (tl := [.val (.lst partL), .non, .non]) (m1 := mC (.int 7)) rfl (c := false) rfl e) rfl
  simpa using this
def mend (r : Nat) (d : D) : D := .lst (partL.take r ++ [d] ++ partL.drop (r + 1))
/-- one part bent -/
theorem bent_ok (r : Nat) (ws : List D) (m : Mu) (k : Nat) (h0 : ws ≠ []) (hl : ws.length ≤ 1000) (hk : k ≤ 1000000) (hd : DiceK k m) (h2 : sp2 (sf m r .non) = .ok .nx (sf m r .non)) (h3 : sp3 (sf m r .non) = .ok .nx (sf m r (.own (.lst ws)))) 
    (e1 : ∀ s, sl1 (sf m r s) = .ok (.lst (partL.take r), true) (sf m r s)) (e2 : ∀ m s, sl2 (sf m r s) = .ok (.lst (partL.drop (r + 1)), true) (sf m r s)) (hr : r < 5) :
    ∃ d m' s, d ∈ ws ∧ DiceK (k + 1) m' ∧ (mSeq sp2 (mSeq sp3 (mRet (mTup (mCons (mOp2 addD (mOp2 addD sl1 (mLst (mCons (mCallD fn_l_pick 0 (mCons (mGive 3) mNil)) mNil))) sl2) (mCons (mC (.bl false)) mNil)))))) (sf m r .non) = .ok (.rt (.tup [mend r d, .bl false], false)) (sf m' r s) := by
  obtain ⟨d, m', hm, e, dk⟩ := pick_ok m k ws h0 hl hk hd
  refine ⟨d, m', .val (.lst ws), hm, dk, ?_⟩
  rw [seq_nx h2, seq_nx h3]
  have g : mGive 3 (sf m r (.own (.lst ws))) = .ok (.lst ws, false) (sf m r (.val (.lst ws))) := rfl
  have c : mCallD fn_l_pick 0 (mCons (mGive 3) mNil) (sf m r (.own (.lst ws))) = .ok (d, false) (sf m' r (.val (.lst ws))) := callD1b (m0 := m) (tl0 := [.val (.lst partL), .val (.int r), .own (.lst ws)]) (tl := [.val (.lst partL), .val (.int r), .val (.lst ws)]) rfl rfl g e
  have l5 : (partL.take r).length ≤ 5 := List.length_take_le' _ _
  have a1 : addD (.lst (partL.take r)) (.lst [d]) = some (.lst (partL.take r ++ [d]), true) := by
    show (if (partL.take r).length + ([d] : List D).length ≤ sizeLine then some (D.lst (partL.take r ++ [d]), true) else none) = _
    rw [if_pos (by rw [big]; simp only [List.length_cons, List.length_nil]; omega)]
  have l6 : (partL.drop (r + 1)).length ≤ 5 := by rw [List.length_drop]; show 5 - _ ≤ 5; omega
  have a2 : addD (.lst (partL.take r ++ [d])) (.lst (partL.drop (r + 1))) = some (mend r d, true) := by
    show (if (partL.take r ++ [d]).length + (partL.drop (r + 1)).length ≤ sizeLine then some (D.lst (partL.take r ++ [d] ++ partL.drop (r + 1)), true) else none) = _
    rw [if_pos (by rw [big]; simp only [List.length_append, List.length_cons, List.length_nil]; omega)]
    rfl
  exact ret_eq (tup_2 (op2_eq (op2_eq (e1 _) (lst_eq (cons1 c) (by simp)) a1) (e2 _ _) a2) rfl)
/-- parts, and whether they are fine -/
def fineT : D := .tup [.lst partL, .bl true]
def spoilL : List D := fineT :: (w01.map fun d => D.tup [mend 0 d, .bl false]) ++ (w01.map fun d => D.tup [mend 1 d, .bl false]) ++ (w23.map fun d => D.tup [mend 2 d, .bl false]) ++ (w23.map fun d => D.tup [mend 3 d, .bl false]) ++ (w4.map fun d => D.tup [mend 4 d, .bl false])
theorem in0 {d : D} (h : d ∈ w01) : D.tup [mend 0 d, .bl false] ∈ spoilL := by
  unfold spoilL
  simp only [List.mem_cons, List.mem_append, List.cons_append]
  exact .inr (.inl (.inl (.inl (.inl (List.mem_map.mpr ⟨d, h, rfl⟩)))))
theorem in1 {d : D} (h : d ∈ w01) : D.tup [mend 1 d, .bl false] ∈ spoilL := by
  unfold spoilL
  simp only [List.mem_cons, List.mem_append, List.cons_append]
  exact .inr (.inl (.inl (.inl (.inr (List.mem_map.mpr ⟨d, h, rfl⟩)))))
theorem in2 {d : D} (h : d ∈ w23) : D.tup [mend 2 d, .bl false] ∈ spoilL := by
  unfold spoilL
  simp only [List.mem_cons, List.mem_append, List.cons_append]
  exact .inr (.inl (.inl (.inr (List.mem_map.mpr ⟨d, h, rfl⟩))))
theorem in3 {d : D} (h : d ∈ w23) : D.tup [mend 3 d, .bl false] ∈ spoilL := by
  unfold spoilL
  simp only [List.mem_cons, List.mem_append, List.cons_append]
  exact .inr (.inl (.inr (List.mem_map.mpr ⟨d, h, rfl⟩)))
theorem in4 {d : D} (h : d ∈ w4) : D.tup [mend 4 d, .bl false] ∈ spoilL := by
  unfold spoilL
  simp only [List.mem_cons, List.mem_append, List.cons_append]
  exact .inr (.inr (List.mem_map.mpr ⟨d, h, rfl⟩))
theorem fine5 (m : Mu) : sp2 (sf m 5 .non) = .ok (.rt (fineT, false)) (sf m 5 .non) := by kernel_rfl
theorem fine6 (m : Mu) : sp2 (sf m 6 .non) = .ok (.rt (fineT, false)) (sf m 6 .non) := by kernel_rfl

theorem b2_0 (m : Mu) : sp2 (sf m ((0 : Nat) : Int) .non) = .ok .nx (sf m ((0 : Nat) : Int) .non) := by kernel_rfl
theorem b3_0 (m : Mu) : sp3 (sf m ((0 : Nat) : Int) .non) = .ok .nx (sf m ((0 : Nat) : Int) (.own (.lst w01))) := by kernel_rfl
theorem b4_0 (m : Mu) (s : Sl) : sl1 (sf m ((0 : Nat) : Int) s) = .ok (.lst (partL.take 0), true) (sf m ((0 : Nat) : Int) s) := by kernel_rfl
theorem b5_0 (m : Mu) (s : Sl) : sl2 (sf m ((0 : Nat) : Int) s) = .ok (.lst (partL.drop (0 + 1)), true) (sf m ((0 : Nat) : Int) s) := by kernel_rfl
theorem b2_1 (m : Mu) : sp2 (sf m ((1 : Nat) : Int) .non) = .ok .nx (sf m ((1 : Nat) : Int) .non) := by kernel_rfl
theorem b3_1 (m : Mu) : sp3 (sf m ((1 : Nat) : Int) .non) = .ok .nx (sf m ((1 : Nat) : Int) (.own (.lst w01))) := by kernel_rfl
theorem b4_1 (m : Mu) (s : Sl) : sl1 (sf m ((1 : Nat) : Int) s) = .ok (.lst (partL.take 1), true) (sf m ((1 : Nat) : Int) s) := by kernel_rfl
theorem b5_1 (m : Mu) (s : Sl) : sl2 (sf m ((1 : Nat) : Int) s) = .ok (.lst (partL.drop (1 + 1)), true) (sf m ((1 : Nat) : Int) s) := by kernel_rfl
theorem b2_2 (m : Mu) : sp2 (sf m ((2 : Nat) : Int) .non) = .ok .nx (sf m ((2 : Nat) : Int) .non) := by kernel_rfl
theorem b3_2 (m : Mu) : sp3 (sf m ((2 : Nat) : Int) .non) = .ok .nx (sf m ((2 : Nat) : Int) (.own (.lst w23))) := by kernel_rfl
theorem b4_2 (m : Mu) (s : Sl) : sl1 (sf m ((2 : Nat) : Int) s) = .ok (.lst (partL.take 2), true) (sf m ((2 : Nat) : Int) s) := by kernel_rfl
theorem b5_2 (m : Mu) (s : Sl) : sl2 (sf m ((2 : Nat) : Int) s) = .ok (.lst (partL.drop (2 + 1)), true) (sf m ((2 : Nat) : Int) s) := by kernel_rfl
theorem b2_3 (m : Mu) : sp2 (sf m ((3 : Nat) : Int) .non) = .ok .nx (sf m ((3 : Nat) : Int) .non) := by kernel_rfl
theorem b3_3 (m : Mu) : sp3 (sf m ((3 : Nat) : Int) .non) = .ok .nx (sf m ((3 : Nat) : Int) (.own (.lst w23))) := by kernel_rfl
theorem b4_3 (m : Mu) (s : Sl) : sl1 (sf m ((3 : Nat) : Int) s) = .ok (.lst (partL.take 3), true) (sf m ((3 : Nat) : Int) s) := by kernel_rfl
theorem b5_3 (m : Mu) (s : Sl) : sl2 (sf m ((3 : Nat) : Int) s) = .ok (.lst (partL.drop (3 + 1)), true) (sf m ((3 : Nat) : Int) s) := by kernel_rfl
theorem b2_4 (m : Mu) : sp2 (sf m ((4 : Nat) : Int) .non) = .ok .nx (sf m ((4 : Nat) : Int) .non) := by kernel_rfl
theorem b3_4 (m : Mu) : sp3 (sf m ((4 : Nat) : Int) .non) = .ok .nx (sf m ((4 : Nat) : Int) (.own (.lst w4))) := by kernel_rfl
theorem b4_4 (m : Mu) (s : Sl) : sl1 (sf m ((4 : Nat) : Int) s) = .ok (.lst (partL.take 4), true) (sf m ((4 : Nat) : Int) s) := by kernel_rfl
theorem b5_4 (m : Mu) (s : Sl) : sl2 (sf m ((4 : Nat) : Int) s) = .ok (.lst (partL.drop (4 + 1)), true) (sf m ((4 : Nat) : Int) s) := by kernel_rfl
theorem spoilt_ok (m : Mu) (k : Nat) (hk : k ≤ 900000) (hd : DiceK k m) : ∃ x m', x ∈ spoilL ∧ fn_l_spoilt (some m) [] = .ret (x, false) (some m') ∧ DiceK (k + 2) m' := by
  obtain ⟨r, m1, e, r0, r1, d1⟩ := roll_ok m k 7 (by decide) (by decide) (by omega) hd
  have h01 := sp1_eq e
  have up : ∀ {m : Mu}, DiceK (k + 1) m → DiceK (k + 2) m := fun {m} h => by
    obtain ⟨a, b, c, rfl, q1, q2, q3, q4, q5, q6⟩ := h
    exact ⟨a, b, c, rfl, q1, q2, q3, q4, q5, by omega⟩
  have key : ∀ {x : D} {m' : Mu} {s : Sl}, x ∈ spoilL → DiceK (k + 2) m' → (mSeq sp2 (mSeq sp3 (mRet (mTup (mCons (mOp2 addD (mOp2 addD sl1 (mLst (mCons (mCallD fn_l_pick 0 (mCons (mGive 3) mNil)) mNil))) sl2) (mCons (mC (.bl false)) mNil)))))) (sf m1 r .non) = .ok (.rt (x, false)) (sf m' r s) →
      ∃ x m', x ∈ spoilL ∧ fn_l_spoilt (some m) [] = .ret (x, false) (some m') ∧ DiceK (k + 2) m' := fun {x m' s} hx hd h => by
    refine ⟨x, m', hx, ret_io2 rfl (ρ := sf m' r s) ?_ rfl, hd⟩
    show m_l_spoilt [.io m, .non, .non, .non] = _
    rw [spoilt_split, seq_nx (sp0_eq m), seq_nx h01]
    exact h
  obtain ⟨n, hn⟩ := Int.eq_ofNat_of_zero_le r0
  subst hn
  have hn : n < 7 := by omega
  rcases n with _ | _ | _ | _ | _ | _ | _ | n

  · obtain ⟨d, m', s, hm, dk, f⟩ := bent_ok 0 w01 m1 (k + 1) (by simp) (by simp) (by omega) d1 (b2_0 m1) (b3_0 m1) (b4_0 m1) b5_0 (by omega)
    exact key (in0 hm) dk f
  · obtain ⟨d, m', s, hm, dk, f⟩ := bent_ok 1 w01 m1 (k + 1) (by simp) (by simp) (by omega) d1 (b2_1 m1) (b3_1 m1) (b4_1 m1) b5_1 (by omega)
    exact key (in1 hm) dk f
  · obtain ⟨d, m', s, hm, dk, f⟩ := bent_ok 2 w23 m1 (k + 1) (by simp) (by simp) (by omega) d1 (b2_2 m1) (b3_2 m1) (b4_2 m1) b5_2 (by omega)
    exact key (in2 hm) dk f
  · obtain ⟨d, m', s, hm, dk, f⟩ := bent_ok 3 w23 m1 (k + 1) (by simp) (by simp) (by omega) d1 (b2_3 m1) (b3_3 m1) (b4_3 m1) b5_3 (by omega)
    exact key (in3 hm) dk f
  · obtain ⟨d, m', s, hm, dk, f⟩ := bent_ok 4 w4 m1 (k + 1) (by simp) (by simp) (by omega) d1 (b2_4 m1) (b3_4 m1) (b4_4 m1) b5_4 (by omega)
    exact key (in4 hm) dk f
  · exact key (s := .non) (by unfold spoilL; simp) (up d1) (seq_rt (fine5 m1))
  · exact key (s := .non) (by unfold spoilL; simp) (up d1) (seq_rt (fine6 m1))
  · omega

def pt1 : MS := (mSeq (mAsg 1 (mToldX excL tc_l_met (some "") (mMakeX 1 fn_x_Table_uinitu (mCons (mOp2 ixD (mVar 3) (mC (.int 0))) (mCons (mOp2 ixD (mVar 3) (mC (.int 1))) (mCons (mOp2 ixD (mVar 3) (mC (.int 2))) (mCons (mOp2 ixD (mVar 3) (mC (.int 3))) (mCons (mOp2 ixD (mVar 3) (mC (.int 4))) mNil)))))))) (mSeq (mAsg 2 (mToldX excL tc_l_met (some "") (mMakeX 1 fn_x_Table_uinitu (mCons (mC (.int 0)) (mCons (mC (.int 0)) (mCons (mTup mNil) (mCons (mTup mNil) (mCons (mTup mNil) mNil))))))))
    (mRet (mOp2 eqD (mLst (mCons (mVar 1) (mCons (mVar 2) mNil))) (mLst (mCons (mIf (mTest (mVar 4)) (mC (.str "")) (mC (.str "table"))) (mCons (mC (.str "table")) mNil)))))))
theorem parts_split : m_l_parts_right = mSeq (mAsgG (gT [(gN 3), (gN 4)]) (mCallD fn_l_spoilt 0 mNil)) pt1 := rfl
def fst2 : D → D
  | .tup [a, _] => a
  | _ => .non
def snd2 : D → D
  | .tup [_, b] => b
  | _ => .non
def outP (m : Mu) (x : D) : Rs Fl := .ok (.rt (.bl true, false)) [.io m, lastS (pt1 [.io m, .non, .non, .val (fst2 x), .val (snd2 x)]) 1, lastS (pt1 [.io m, .non, .non, .val (fst2 x), .val (snd2 x)]) 2, .val (fst2 x), .val (snd2 x)]
theorem parts_all (m : Mu) : (spoilL.map fun x => pt1 [.io m, .non, .non, .val (fst2 x), .val (snd2 x)]) = spoilL.map fun x => outP m x := by kernel_rfl
theorem got_all : spoilL.all (fun x => (match x with | .tup [_, _] => true | _ => false)) = true := by kernel_rfl
theorem two_of {x : D} (h : (match x with | .tup [_, _] => true | _ => false) = true) : x = .tup [fst2 x, snd2 x] := by
  split at h
  · rfl
  · cases h
theorem callD0_eq {f : Fn} {m m' : Mu} {z : Vl} {tl : En} (h : f (some m) [] = .ret z (some m')) : mCallD f 0 mNil (.io m :: tl) = .ok z (.io m' :: tl) := by
  have mu : muOf 0 (.io m :: tl) = some (.io m, m) := rfl
  unfold mCallD mNil
  simp only [mu, Rs.bind, h]
  rfl
theorem parts_ok (m : Mu) (k : Nat) (hk : k ≤ 900000) (hd : DiceK k m) : ∃ m', fn_l_parts_right (some m) [] = .ret (.bl true, false) (some m') ∧ DiceK (k + 2) m' := by
  obtain ⟨x, m1, hx, e, d1⟩ := spoilt_ok m k hk hd
  have e2 := two_of (List.all_eq_true.mp got_all x hx)
  have s1 : mAsgG (gT [(gN 3), (gN 4)]) (mCallD fn_l_spoilt 0 mNil) (.io m :: [.non, .non, .non, .non]) = .ok .nx [.io m1, .non, .non, .val (fst2 x), .val (snd2 x)] := by
    rw [e2] at e
    exact asgG_eq (callD0_eq e) rfl
  refine ⟨m1, ret_io2 rfl (ρ := [.io m1, lastS (pt1 [.io m1, .non, .non, .val (fst2 x), .val (snd2 x)]) 1, lastS (pt1 [.io m1, .non, .non, .val (fst2 x), .val (snd2 x)]) 2, .val (fst2 x), .val (snd2 x)]) ?_ rfl, d1⟩
  show m_l_parts_right (.io m :: [.non, .non, .non, .non]) = _
  rw [parts_split, seq_nx s1]
  exact map_at (parts_all m1) x hx
end PM.G

namespace PM.G
open PySem PySem.Spec L2 PM

def tabO : D := match mkF 1 fn_Table_uinitu [.int 1, .int 0, .tup [.tup [.int 0, .int 1], .tup [.int 1, .int 1]], .tup [.tup [.int 0, .int 0], .tup [.int 0, .int 1]], .tup [.int 1]] with | some (d, _) => d | none => .non
def tieB : D := match fn_Building_tie none [.cls 0] with | .ret (d, _) none => d | _ => .non
abbrev rowO : D := .tup [.tup [.int 0, .int 1], .tup [.int 1, .int 1]]
abbrev oddL : List D := [.non, .int 0, .str "tie", .tup [], .dct [] [], .bl true, .lst [tabO], rowO]
abbrev someL : List D := [tieB, tieB, tieB] ++ oddL ++ [tabO]
abbrev bentL : List D := [.tup [.int 0], .tup [.int 0, .int 0], .tup [.int 0, .int 1, .int 2], .lst [.int 0, .int 1], .tup [.bl true, .int 0], .tup [.int 0, .bl true], .tup [.str "0", .str "1"], .non, .int 0, .dct [] []]
abbrev ordL : List D := [.tup [.int 0, .int 1], .tup [.int 1, .int 0], .tup [.int 0, .int 1], .tup [.int 1, .int 0]] ++ bentL
abbrev goodL : List D := [.tup [], .tup [.int 0], .tup [.int 1], .tup [.int 0, .int 1], .tup [.int 1, .int 0], .tup [.int 2], .lst [.int 0], .tup [.bl true], .non, .int 0, .dct [] [], .tup [.str "0"], .tup [.int 0, .int 0]]
abbrev oneL : List D := [tabO, tabO] ++ oddL
abbrev T0 : Sl := .val tabO
abbrev OD : Sl := .val (.lst oddL)
abbrev BE : Sl := .val (.lst bentL)

def ca0 : MS := (mAsg 2 (mLst (mCons (mC .non) (mCons (mC (.int 0)) (mCons (mC (.str "tie")) (mCons (mTup mNil) (mCons mDct0 (mCons (mC (.bl true)) (mCons (mLst (mCons (mVar 1) mNil)) (mCons (mOp1 (fun x => objN 1 fn_Table_rows [x]) (mVar 1)) mNil))))))))))
def cL1 : ME := (mOp2 addD (mOp2 addD (mOp2 mulL (mLst (mCons (mCm 0 fn_Building_tie mNil) mNil)) (mC (.int 3))) (mVar 2)) (mLst (mCons (mVar 1) mNil)))
def caC : MS := (mSeq (mAsg 4 (mIf (mTest (mOp1 (isD 2 ans_Building) (mVar 3))) (mC (.str "")) (mC (.str "building")))) (mSeq (mAsgO 5 (mLst (mCons (mToldX excL tc_l_met (some "") (mMethX 1 fn_x_Table_state_of (mVar 1) (mCons (mVar 3) mNil))) mNil))) (mSeq (mExpr (mAppend 5 (mCons (mToldX excL tc_l_met (some "") (mMethX 1 fn_x_Table_accepts (mVar 1) (mCons (mVar 3) mNil))) mNil)))
    (mIfS (mTest (mOp2 neD (mGive 5) (mLst (mCons (mVar 4) (mCons (mVar 4) mNil))))) (mRet (mC (.bl false))) mNext))))
def ca6 : MS := (mAsg 6 (mLst (mCons (mTup (mCons (mC (.int 0)) mNil)) (mCons (mTup (mCons (mC (.int 0)) (mCons (mC (.int 0)) mNil))) (mCons (mTup (mCons (mC (.int 0)) (mCons (mC (.int 1)) (mCons (mC (.int 2)) mNil)))) (mCons (mLst (mCons (mC (.int 0)) (mCons (mC (.int 1)) mNil))) (mCons (mTup (mCons (mC (.bl true)) (mCons (mC (.int 0)) mNil))) (mCons (mTup (mCons (mC (.int 0)) (mCons (mC (.bl true)) mNil))) (mCons (mTup (mCons (mC (.str "0")) (mCons (mC (.str "1")) mNil))) (mCons (mC .non) (mCons (mC (.int 0)) (mCons mDct0 mNil))))))))))))
def cL7 : ME := (mOp2 addD (mOp2 mulL (mLst (mCons (mTup (mCons (mC (.int 0)) (mCons (mC (.int 1)) mNil))) (mCons (mTup (mCons (mC (.int 1)) (mCons (mC (.int 0)) mNil))) mNil))) (mC (.int 2))) (mVar 6))
def ca8 : MS := (mIfS (mTest (mOp2 neD (mToldX excL tc_l_met (some "") (mMethX 1 fn_x_Table_renumbered (mVar 1) (mCons (mVar 7) mNil))) (mIf (mTest (mOp2 (inA false) (mCall (one1 reprX) (mCons (mVar 7) mNil)) (mTup (mCons (mC (.str "(0, 1)")) (mCons (mC (.str "(1, 0)")) mNil))))) (mC (.str "")) (mC (.str "operation"))))) (mRet (mC (.bl false))) mNext)
def cL9 : ME := (mLst (mCons (mTup mNil) (mCons (mTup (mCons (mC (.int 0)) mNil)) (mCons (mTup (mCons (mC (.int 1)) mNil)) (mCons (mTup (mCons (mC (.int 0)) (mCons (mC (.int 1)) mNil))) (mCons (mTup (mCons (mC (.int 1)) (mCons (mC (.int 0)) mNil))) (mCons (mTup (mCons (mC (.int 2)) mNil)) (mCons (mLst (mCons (mC (.int 0)) mNil)) (mCons (mTup (mCons (mC (.bl true)) mNil)) (mCons (mC .non) (mCons (mC (.int 0)) (mCons mDct0 (mCons (mTup (mCons (mC (.str "0")) mNil)) (mCons (mTup (mCons (mC (.int 0)) (mCons (mC (.int 0)) mNil))) mNil))))))))))))))
def caH : MS := (mSeq (mAsg 9 (mOp2 (inA false) (mCall (one1 reprX) (mCons (mVar 8) mNil)) (mTup (mCons (mC (.str "()")) (mCons (mC (.str "(0,)")) (mCons (mC (.str "(1,)")) (mCons (mC (.str "(0, 1)")) mNil)))))))
    (mIfS (mTest (mOp2 neD (mToldX excL tc_l_met (some "") (mMethX 1 fn_x_Table_with_accepted (mVar 1) (mCons (mVar 8) mNil))) (mIf (mTest (mVar 9)) (mC (.str "")) (mC (.str "operation"))))) (mRet (mC (.bl false))) mNext))
def cL12 : ME := (mOp2 addD (mOp2 mulL (mLst (mCons (mVar 1) mNil)) (mC (.int 2))) (mVar 2))
def caJ : MS := (mSeq (mAsg 10 (mIf (mTest (mOp1 (isD 2 ans_Table) (mVar 12))) (mC (.str "")) (mC (.str "table"))))
    (mSeq (mAsg 11 (mIf (mTest (mOp1 (isD 2 ans_Table) (mVar 13))) (mC (.str "")) (mC (.str "table"))))
    (mSeq (mAsgO 5 (mLst (mCons (mToldX excL tc_l_met (some "") (mCallX fn_x_misread (mCons (mVar 12) (mCons (mVar 13) mNil)))) mNil)))
    (mSeq (mExpr (mAppend 5 (mCons (mToldX excL tc_l_met (some "") (mCallX fn_x_is_closed_set (mCons (mVar 12) (mCons (mVar 13) mNil)))) mNil)))
    (mRet (mOp2 eqD (mGive 5) (mLst (mCons (mIf (mTest (mOp2 neD (mVar 10) (mC (.str "")))) (mVar 10) (mVar 11)) (mCons (mVar 10) mNil)))))))))
theorem calls_split : m_l_calls_right = mSeq ca0 (mSeq (mAsg 3 (mCallD fn_l_pick 0 (mCons cL1 mNil))) (mSeq (mAsg 4 (mIf (mTest (mOp1 (isD 2 ans_Building) (mVar 3))) (mC (.str "")) (mC (.str "building")))) (mSeq (mAsgO 5 (mLst (mCons (mToldX excL tc_l_met (some "") (mMethX 1 fn_x_Table_state_of (mVar 1) (mCons (mVar 3) mNil))) mNil))) (mSeq (mExpr (mAppend 5 (mCons (mToldX excL tc_l_met (some "") (mMethX 1 fn_x_Table_accepts (mVar 1) (mCons (mVar 3) mNil))) mNil))) (mSeq (mIfS (mTest (mOp2 neD (mGive 5) (mLst (mCons (mVar 4) (mCons (mVar 4) mNil))))) (mRet (mC (.bl false))) mNext) (mSeq ca6 (mSeq (mAsg 7 (mCallD fn_l_pick 0 (mCons cL7 mNil))) (mSeq ca8 (mSeq (mAsg 8 (mCallD fn_l_pick 0 (mCons cL9 mNil))) (mSeq (mAsg 9 (mOp2 (inA false) (mCall (one1 reprX) (mCons (mVar 8) mNil)) (mTup (mCons (mC (.str "()")) (mCons (mC (.str "(0,)")) (mCons (mC (.str "(1,)")) (mCons (mC (.str "(0, 1)")) mNil))))))) (mSeq (mIfS (mTest (mOp2 neD (mToldX excL tc_l_met (some "") (mMethX 1 fn_x_Table_with_accepted (mVar 1) (mCons (mVar 8) mNil))) (mIf (mTest (mVar 9)) (mC (.str "")) (mC (.str "operation"))))) (mRet (mC (.bl false))) mNext) (mSeq (mAsgG (gT [(gN 12), (gN 13)]) (mTup (mCons (mCallD fn_l_pick 0 (mCons cL12 mNil)) (mCons (mCallD fn_l_pick 0 (mCons cL12 mNil)) mNil)))) caJ)))))))))))) := rfl
theorem seq3 {a b c : MS} {ρ ρ1 : En} {r : MS} (h : mSeq a (mSeq b c) ρ = .ok .nx ρ1) : mSeq a (mSeq b (mSeq c r)) ρ = r ρ1 := by
  unfold mSeq at h ⊢
  cases e : a ρ with
  | stuck => rw [e] at h; cases h
  | exc x ρ' => rw [e] at h; cases h
  | ok f ρ' =>
    rw [e] at h
    cases f with
    | nx =>
      simp only at h ⊢
      cases e2 : b ρ' with
      | stuck => rw [e2] at h; cases h
      | exc x ρ'' => rw [e2] at h; cases h
      | ok f2 ρ'' =>
        rw [e2] at h
        cases f2 with
        | nx => simp only at h ⊢; rw [h]
        | _ => cases h
    | _ => cases h
theorem seq2 {a b : MS} {ρ ρ1 : En} {r : MS} (h : mSeq a b ρ = .ok .nx ρ1) : mSeq a (mSeq b r) ρ = r ρ1 := by
  unfold mSeq at h ⊢
  cases e : a ρ with
  | stuck => rw [e] at h; cases h
  | exc x ρ' => rw [e] at h; cases h
  | ok f ρ' =>
    rw [e] at h
    cases f with
    | nx => simp only at h ⊢; rw [h]
    | _ => cases h
theorem seq4 {a b c d : MS} {ρ ρ1 : En} {r : MS} (h : mSeq a (mSeq b (mSeq c d)) ρ = .ok .nx ρ1) : mSeq a (mSeq b (mSeq c (mSeq d r))) ρ = r ρ1 := by
  have h2 := h
  unfold mSeq at h
  cases e : a ρ with
  | stuck => rw [e] at h; cases h
  | exc x ρ' => rw [e] at h; cases h
  | ok f ρ' =>
    rw [e] at h
    cases f with
    | nx => exact (seq_nx e).trans (seq3 h)
    | _ => cases h
theorem ca0_eq (m : Mu) : ca0 (.io m :: [T0, .non, .non, .non, .non, .non, .non, .non, .non, .non, .non, .non, .non]) = .ok .nx (.io m :: [T0, OD, .non, .non, .non, .non, .non, .non, .non, .non, .non, .non, .non]) := by kernel_rfl
theorem cL1_eq (m : Mu) : cL1 (.io m :: [T0, OD, .non, .non, .non, .non, .non, .non, .non, .non, .non, .non, .non]) = .ok (.lst someL, true) (.io m :: [T0, OD, .non, .non, .non, .non, .non, .non, .non, .non, .non, .non, .non]) := by kernel_rfl
abbrev fC (m : Mu) (x : D) (s4 s5 : Sl) : En := [.io m, T0, OD, .val x, s4, s5, .non, .non, .non, .non, .non, .non, .non, .non]
theorem caC_all (m : Mu) : (someL.map fun x => caC (fC m x .non .non)) = someL.map fun x => .ok .nx (fC m x (lastS (caC (fC m x .non .non)) 4) (lastS (caC (fC m x .non .non)) 5)) := by kernel_rfl
theorem ca6_eq (m : Mu) (s3 s4 s5 : Sl) : ca6 (.io m :: [T0, OD, s3, s4, s5, .non, .non, .non, .non, .non, .non, .non, .non]) = .ok .nx (.io m :: [T0, OD, s3, s4, s5, BE, .non, .non, .non, .non, .non, .non, .non]) := by kernel_rfl
theorem cL7_eq (s3 s4 s5 : Sl) (m : Mu) : cL7 (.io m :: [T0, OD, s3, s4, s5, BE, .non, .non, .non, .non, .non, .non, .non]) = .ok (.lst ordL, true) (.io m :: [T0, OD, s3, s4, s5, BE, .non, .non, .non, .non, .non, .non, .non]) := by kernel_rfl
abbrev f8 (m : Mu) (s3 s4 s5 : Sl) (x : D) (s8 s9 : Sl) : En := [.io m, T0, OD, s3, s4, s5, BE, .val x, s8, s9, .non, .non, .non, .non]
theorem ca8_all (m : Mu) (s3 s4 s5 : Sl) : (ordL.map fun x => ca8 (f8 m s3 s4 s5 x .non .non)) = ordL.map fun x => .ok .nx (f8 m s3 s4 s5 x .non .non) := by kernel_rfl
theorem cL9_eq (s3 s4 s5 s7 : Sl) (m : Mu) : cL9 (.io m :: [T0, OD, s3, s4, s5, BE, s7, .non, .non, .non, .non, .non, .non]) = .ok (.lst goodL, true) (.io m :: [T0, OD, s3, s4, s5, BE, s7, .non, .non, .non, .non, .non, .non]) := by kernel_rfl
abbrev f9 (m : Mu) (s3 s4 s5 s7 : Sl) (x : D) (s9 : Sl) : En := [.io m, T0, OD, s3, s4, s5, BE, s7, .val x, s9, .non, .non, .non, .non]
theorem caH_all (m : Mu) (s3 s4 s5 s7 : Sl) : (goodL.map fun x => caH (f9 m s3 s4 s5 s7 x .non)) = goodL.map fun x => .ok .nx (f9 m s3 s4 s5 s7 x (lastS (caH (f9 m s3 s4 s5 s7 x .non)) 9)) := by kernel_rfl
theorem cL12_eq (s3 s4 s5 s7 s8 s9 : Sl) (m : Mu) : cL12 (.io m :: [T0, OD, s3, s4, s5, BE, s7, s8, s9, .non, .non, .non, .non]) = .ok (.lst oneL, true) (.io m :: [T0, OD, s3, s4, s5, BE, s7, s8, s9, .non, .non, .non, .non]) := by kernel_rfl
abbrev fJ (m : Mu) (s3 s4 s5 s7 s8 s9 s10 s11 : Sl) (x y : D) : En := [.io m, T0, OD, s3, s4, s5, BE, s7, s8, s9, s10, s11, .val x, .val y]
end PM.G

namespace PM.G
open PySem PySem.Spec L2 PM

def outJ (m : Mu) (s3 s4 s7 s8 s9 : Sl) (v5 : D) (x y : D) : Rs Fl := .ok (.rt (.bl true, false)) [.io m, T0, OD, s3, s4, lastS (caJ (fJ m s3 s4 (.val v5) s7 s8 s9 .non .non x y)) 5, BE, s7, s8, s9, lastS (caJ (fJ m s3 s4 (.val v5) s7 s8 s9 .non .non x y)) 10, lastS (caJ (fJ m s3 s4 (.val v5) s7 s8 s9 .non .non x y)) 11, .val x, .val y]
theorem caJ0 (m : Mu) (s3 s4 s7 s8 s9 : Sl) (v5 : D) : (oneL.map fun y => caJ (fJ m s3 s4 (.val v5) s7 s8 s9 .non .non (tabO) y)) = oneL.map fun y => outJ m s3 s4 s7 s8 s9 v5 (tabO) y := by kernel_rfl
theorem caJ1 (m : Mu) (s3 s4 s7 s8 s9 : Sl) (v5 : D) : (oneL.map fun y => caJ (fJ m s3 s4 (.val v5) s7 s8 s9 .non .non (.non) y)) = oneL.map fun y => outJ m s3 s4 s7 s8 s9 v5 (.non) y := by kernel_rfl
theorem caJ2 (m : Mu) (s3 s4 s7 s8 s9 : Sl) (v5 : D) : (oneL.map fun y => caJ (fJ m s3 s4 (.val v5) s7 s8 s9 .non .non (.int 0) y)) = oneL.map fun y => outJ m s3 s4 s7 s8 s9 v5 (.int 0) y := by kernel_rfl
theorem caJ3 (m : Mu) (s3 s4 s7 s8 s9 : Sl) (v5 : D) : (oneL.map fun y => caJ (fJ m s3 s4 (.val v5) s7 s8 s9 .non .non (.str "tie") y)) = oneL.map fun y => outJ m s3 s4 s7 s8 s9 v5 (.str "tie") y := by kernel_rfl
theorem caJ4 (m : Mu) (s3 s4 s7 s8 s9 : Sl) (v5 : D) : (oneL.map fun y => caJ (fJ m s3 s4 (.val v5) s7 s8 s9 .non .non (.tup []) y)) = oneL.map fun y => outJ m s3 s4 s7 s8 s9 v5 (.tup []) y := by kernel_rfl
theorem caJ5 (m : Mu) (s3 s4 s7 s8 s9 : Sl) (v5 : D) : (oneL.map fun y => caJ (fJ m s3 s4 (.val v5) s7 s8 s9 .non .non (.dct [] []) y)) = oneL.map fun y => outJ m s3 s4 s7 s8 s9 v5 (.dct [] []) y := by kernel_rfl
theorem caJ6 (m : Mu) (s3 s4 s7 s8 s9 : Sl) (v5 : D) : (oneL.map fun y => caJ (fJ m s3 s4 (.val v5) s7 s8 s9 .non .non (.bl true) y)) = oneL.map fun y => outJ m s3 s4 s7 s8 s9 v5 (.bl true) y := by kernel_rfl
theorem caJ7 (m : Mu) (s3 s4 s7 s8 s9 : Sl) (v5 : D) : (oneL.map fun y => caJ (fJ m s3 s4 (.val v5) s7 s8 s9 .non .non (.lst [tabO]) y)) = oneL.map fun y => outJ m s3 s4 s7 s8 s9 v5 (.lst [tabO]) y := by kernel_rfl
theorem caJ8 (m : Mu) (s3 s4 s7 s8 s9 : Sl) (v5 : D) : (oneL.map fun y => caJ (fJ m s3 s4 (.val v5) s7 s8 s9 .non .non (rowO) y)) = oneL.map fun y => outJ m s3 s4 s7 s8 s9 v5 (rowO) y := by kernel_rfl
theorem caJ_at (m : Mu) (s3 s4 s7 s8 s9 : Sl) (v5 : D) : ∀ x ∈ oneL, ∀ y ∈ oneL, caJ (fJ m s3 s4 (.val v5) s7 s8 s9 .non .non x y) = outJ m s3 s4 s7 s8 s9 v5 x y := by
  intro x hx y hy
  have key : ∀ z : D, (oneL.map fun y => caJ (fJ m s3 s4 (.val v5) s7 s8 s9 .non .non z y)) = (oneL.map fun y => outJ m s3 s4 s7 s8 s9 v5 z y) → caJ (fJ m s3 s4 (.val v5) s7 s8 s9 .non .non z y) = outJ m s3 s4 s7 s8 s9 v5 z y := fun z h => map_at h y hy
  simp only [oneL, oddL, List.mem_cons, List.not_mem_nil, or_false, List.cons_append, List.nil_append] at hx
  rcases hx with rfl | rfl | rfl | rfl | rfl | rfl | rfl | rfl | rfl | rfl
  · exact key _ (caJ0 m s3 s4 s7 s8 s9 v5)
  · exact key _ (caJ0 m s3 s4 s7 s8 s9 v5)
  · exact key _ (caJ1 m s3 s4 s7 s8 s9 v5)
  · exact key _ (caJ2 m s3 s4 s7 s8 s9 v5)
  · exact key _ (caJ3 m s3 s4 s7 s8 s9 v5)
  · exact key _ (caJ4 m s3 s4 s7 s8 s9 v5)
  · exact key _ (caJ5 m s3 s4 s7 s8 s9 v5)
  · exact key _ (caJ6 m s3 s4 s7 s8 s9 v5)
  · exact key _ (caJ7 m s3 s4 s7 s8 s9 v5)
  · exact key _ (caJ8 m s3 s4 s7 s8 s9 v5)
theorem caC_non (m : Mu) : (someL.all fun x => (match lastS (caC (fC m x .non .non)) 5 with | .val _ => true | _ => false)) = true := by kernel_rfl
theorem calls_ok (m : Mu) (k : Nat) (hk : k ≤ 900000) (hd : DiceK k m) : ∃ m', fn_l_calls_right (some m) [tabO] = .ret (.bl true, false) (some m') ∧ DiceK (k + 5) m' := by
  obtain ⟨x, m1, hx, d1, e1⟩ := draw (i := 2) (L := cL1) (tl := [T0, OD, .non, .non, .non, .non, .non, .non, .non, .non, .non, .non, .non]) cL1_eq (by simp) (by simp) (by omega) hd rfl
  have eC := map_at (caC_all m1) x hx
  obtain ⟨v5, hv5⟩ : ∃ d, lastS (caC (fC m1 x .non .non)) 5 = .val d := by
    have := List.all_eq_true.mp (caC_non m1) x hx
    cases h : lastS (caC (fC m1 x .non .non)) 5 with
    | val d => exact ⟨d, rfl⟩
    | _ => rw [h] at this; cases this
  rw [hv5] at eC
  generalize lastS (caC (fC m1 x .non .non)) 4 = s4 at eC
  obtain ⟨y, m2, hy, d2, e2⟩ := draw (i := 6) (L := cL7) (tl := [T0, OD, .val x, s4, .val v5, BE, .non, .non, .non, .non, .non, .non, .non]) (cL7_eq _ _ _) (by simp) (by simp) (by omega) d1 rfl
  have e8 := map_at (ca8_all m2 (.val x) s4 (.val v5)) y hy
  obtain ⟨z, m3, hz, d3, e3⟩ := draw (i := 7) (L := cL9) (tl := [T0, OD, .val x, s4, .val v5, BE, .val y, .non, .non, .non, .non, .non, .non]) (cL9_eq _ _ _ _) (by simp) (by simp) (by omega) d2 rfl
  have eH := map_at (caH_all m3 (.val x) s4 (.val v5) (.val y)) z hz
  generalize lastS (caH (f9 m3 (.val x) s4 (.val v5) (.val y) z .non)) 9 = s9 at eH
  obtain ⟨p, m4, hp, f1, d4⟩ := pick_ok m3 _ oneL (by simp) (by simp) (by omega) d3
  obtain ⟨q, m5, hq, f2, d5⟩ := pick_ok m4 _ oneL (by simp) (by simp) (by omega) d4
  have g1 : mCallD fn_l_pick 0 (mCons cL12 mNil) (.io m3 :: [T0, OD, .val x, s4, .val v5, BE, .val y, .val z, s9, .non, .non, .non, .non]) = .ok (p, false) (.io m4 :: [T0, OD, .val x, s4, .val v5, BE, .val y, .val z, s9, .non, .non, .non, .non]) := callD1_eq rfl (cL12_eq _ _ _ _ _ _ _) f1
  have g2 : mCallD fn_l_pick 0 (mCons cL12 mNil) (.io m4 :: [T0, OD, .val x, s4, .val v5, BE, .val y, .val z, s9, .non, .non, .non, .non]) = .ok (q, false) (.io m5 :: [T0, OD, .val x, s4, .val v5, BE, .val y, .val z, s9, .non, .non, .non, .non]) := callD1_eq rfl (cL12_eq _ _ _ _ _ _ _) f2
  have eG : mAsgG (gT [(gN 12), (gN 13)]) (mTup (mCons (mCallD fn_l_pick 0 (mCons cL12 mNil)) (mCons (mCallD fn_l_pick 0 (mCons cL12 mNil)) mNil))) (.io m3 :: [T0, OD, .val x, s4, .val v5, BE, .val y, .val z, s9, .non, .non, .non, .non]) = .ok .nx (fJ m5 (.val x) s4 (.val v5) (.val y) (.val z) s9 .non .non p q) := asgG_eq (tup_2 g1 g2) rfl
  have eJ := caJ_at m5 (.val x) s4 (.val y) (.val z) s9 v5 p hp q hq
  obtain ⟨ρe, hρ, h0⟩ : ∃ ρe, caJ (fJ m5 (.val x) s4 (.val v5) (.val y) (.val z) s9 .non .non p q) = .ok (.rt (.bl true, false)) ρe ∧ ρe[0]? = some (.io m5) := ⟨_, eJ, rfl⟩
  refine ⟨m5, ret_io2 rfl (ρ := ρe) ?_ h0, d5⟩
  show m_l_calls_right (.io m :: [T0, .non, .non, .non, .non, .non, .non, .non, .non, .non, .non, .non, .non]) = _
  rw [calls_split, seq_nx (ca0_eq m)]
  exact (seq_nx e1).trans ((seq4 eC).trans ((seq_nx (ca6_eq m1 _ _ _)).trans ((seq_nx e2).trans ((seq_nx e8).trans ((seq_nx e3).trans ((seq2 eH).trans ((seq_nx eG).trans hρ)))))))
end PM.G

namespace PM.G
open PySem PySem.Spec L2 PM
abbrev fW (z : D) (s2 s5 s6 : Sl) : En := [.val z, .val tabO, s2, s5, s6]
section
variable {z : D} {s2 s6 : Sl}
theorem c5_eq {f : Fn} {ma : ME} {m m2 : Mu} {x : D} {c : Bool} {y : Vl} (h1 : ma (fW z s2 (.own m) s6) = .ok (x, c) (fW z s2 (.own m) s6)) (h : f (some m) [x] = .ret y (some m2)) : mCallD f 3 (mCons ma mNil) (fW z s2 (.own m) s6) = .ok y (fW z s2 (.own m2) s6) := by
  have mu : muOf 3 (fW z s2 (.own m) s6) = some (.own m, m) := rfl
  unfold mCallD mCons mNil
  simp only [mu, h1, Rs.bind, h]
  rfl
end
theorem c0_eq {f : Fn} {z : D} {s2 s6 : Sl} {m m2 : Mu} {y : Vl} (h : f (some m) [] = .ret y (some m2)) : mCallD f 3 mNil (fW z s2 (.own m) s6) = .ok y (fW z s2 (.own m2) s6) := by
  have mu : muOf 3 (fW z s2 (.own m) s6) = some (.own m, m) := rfl
  unfold mCallD mNil
  simp only [mu, Rs.bind, h]
  rfl
def turnB : MS := (mIfS (mOr (mNot (mTest (mCallD fn_l_parts_right 3 mNil))) (mNot (mTest (mCallD fn_l_calls_right 3 (mCons (mVar 1) mNil))))) (mRet (mC (.bl false))) mNext)
theorem p0_eq : p_lawX_0 = mFor (mItA rng1 (mCons (mC (.int 4)) mNil)) (gN 4) turnB := rfl
theorem turn_ok {z : D} {s2 s6 : Sl} (m : Mu) (k : Nat) (hk : k ≤ 500000) (hd : DiceK k m) : ∃ (m' : Mu), DiceK (k + 7) m' ∧ turnB (fW z s2 (.own m) s6) = .ok .nx (fW z s2 (.own m') s6) := by
  obtain ⟨m1, e1, d1⟩ := parts_ok m k (by omega) hd
  obtain ⟨m2, e2, d2⟩ := calls_ok m1 (k + 2) (by omega) d1
  refine ⟨m2, d2, ?_⟩
  unfold turnB
  exact ifs_no (or_ff (not_eq (tst_eq (c0_eq e1))) (not_eq (tst_eq (c5_eq (ma := mVar 1) (x := tabO) (c := false) rfl e2))))
theorem turns {z : D} {s2 : Sl} : ∀ (ds : List D) (m : Mu) (k : Nat) (s6 : Sl), k + 7 * ds.length ≤ 500000 → DiceK k m → VN s6 → ∃ m' s6', mLoop (gN 4) turnB ds (fW z s2 (.own m) s6) = .ok .nx (fW z s2 (.own m') s6') ∧ VN s6'
  | [], m, k, s6, _, _, h6 => ⟨m, s6, rfl, h6⟩
  | d :: ds, m, k, s6, hk, hd, h6 => by
    have hk' : k + 7 * (ds.length + 1) ≤ 500000 := hk
    have g := gN_set 4 d (fW z s2 (.own m) s6) h6.io
    have g : gN 4 d (fW z s2 (.own m) s6) = some (fW z s2 (.own m) (.val d)) := g
    obtain ⟨m1, d1, e1⟩ := turn_ok (z := z) (s2 := s2) (s6 := .val d) m k (by omega) hd
    obtain ⟨m', t6, e, q6⟩ := turns ds m1 (k + 7) (.val d) (by omega) d1 True.intro
    exact ⟨m', t6, (loop_nx g e1).trans e, q6⟩
theorem inner {z : D} {s2 s6 : Sl} (m : Mu) (hd : DiceK 0 m) (h6 : VN s6) : ∃ m' s6', p_lawX_0 (fW z s2 (.own m) s6) = .ok .nx (fW z s2 (.own m') s6') ∧ VN s6' := by
  obtain ⟨m', t6, e, q⟩ := turns (z := z) (s2 := s2) (rgL 0 4) m 0 s6 (by rw [rgL_length]; omega) hd h6
  refine ⟨m', t6, ?_, q⟩
  rw [p0_eq]
  unfold mFor
  rw [itA_rng (me := mC (.int 4)) (i := 4) (b := false) rfl (rng1_ok 4 (by decide) (by decide))]
  exact e
theorem outer (ns : List Int) : ∀ (n s : Nat) (s2 s5 s6 : Sl), s + n ≤ 60 → VN s2 → notIo (some s5) = true → VN s6 → ∃ s2' s5' s6', mLoop (gN 2) (mSeq (mAsgO 3 (mCallV fn_l_dice (mCons (mVar 0) (mCons (mVar 2) mNil)))) p_lawX_0) ((rgL 0 (s + n)).drop s) (fW (.scr (ns.map D.int)) s2 s5 s6) = .ok .nx (fW (.scr (ns.map D.int)) s2' s5' s6')
  | 0, s, s2, s5, s6, _, _, _, _ => ⟨s2, s5, s6, by
    rw [List.drop_eq_nil_of_le (by rw [rgL_length]; omega)]
    rfl⟩
  | n + 1, s, s2, s5, s6, h, h2, h5, h6 => by
    have e0 := rgL_drop 0 (s + (n + 1)) s (by omega)
    obtain ⟨m, ed, dk⟩ := dice_ok ns s (by omega)
    have ez : ((0 : Int) + (s : Nat)) = (s : Nat) := by omega
    rw [ez] at e0
    have g := gN_set 2 (.int (s : Nat)) (fW (.scr (ns.map D.int)) s2 s5 s6) h2.io
    have b1 : mAsgO 3 (mCallV fn_l_dice (mCons (mVar 0) (mCons (mVar 2) mNil))) (fW (.scr (ns.map D.int)) (.val (.int (s : Nat))) s5 s6) = .ok .nx (fW (.scr (ns.map D.int)) (.val (.int (s : Nat))) (.own (.lst m)) s6) :=
      asgO_eq (i := 3) (ρ1 := fW (.scr (ns.map D.int)) (.val (.int (s : Nat))) s5 s6) (callV2_eq (m1 := mVar 0) (m2 := mVar 2) (c := false) (c' := false) rfl rfl ed) h5
    obtain ⟨m', z6, e2, q6⟩ := inner (z := .scr (ns.map D.int)) (s2 := .val (.int (s : Nat))) (.lst m) dk h6
    obtain ⟨t2, t5, t6, e3⟩ := outer ns n (s + 1) (.val (.int (s : Nat))) (.own m') z6 (by omega) True.intro rfl q6
    refine ⟨t2, t5, t6, ?_⟩
    rw [e0]
    refine (loop_nx g ((seq_nx b1).trans e2)).trans ?_
    have ee : s + (n + 1) = s + 1 + n := by omega
    rw [ee]
    exact e3
theorem rng_ok (ns : List Int) : ∃ n : Nat, n ≤ 3 ∧ ∀ ρ : En, mVar 0 ρ = .ok (.scr (ns.map D.int), false) ρ → (mItA rng1 (mCons (mCall (two1 maxD) (mCons (mC (.int 1)) (mCons (mCall (two1 minD) (mCons (mC (.int 3)) (mCons (mCall (one1 lenD) (mCons (mVar 0) mNil)) mNil))) mNil))) mNil)) ρ = .ok (rgL 0 n) ρ := by
  generalize hj : (if (((ns.map D.int).length : Nat) : Int) < 3 then (((ns.map D.int).length : Nat) : Int) else 3) = j
  generalize hi : (if j > 1 then j else 1) = i
  have b : 1 ≤ i ∧ i ≤ 3 := by
    rw [← hi, ← hj]
    split <;> split <;> omega
  have e1 := minD_int 3 (((ns.map D.int).length : Nat) : Int)
  rw [hj] at e1
  have e2 := maxD_int 1 j
  rw [hi] at e2
  have e3 : rng1 [.int i] = some (rgL 0 i.toNat) := by
    show (if -(2 ^ 62) ≤ i ∧ i < 2 ^ 62 then some (rgL 0 i.toNat) else none) = _
    rw [if_pos ⟨by omega, by omega⟩]
  refine ⟨i.toNat, by omega, fun ρ h0 => ?_⟩
  have l0 := lenSc (ns.map D.int)
  generalize D.scr (ns.map D.int) = Z at *
  generalize (((ns.map D.int).length : Nat) : Int) = L at *
  simp only [mItA, mCall, mCons, mNil, mC, h0, l0, e1, e2, e3, Rs.bind, lift, one1, two1, dI]
def lfirst : MS := (mAsg 1 (mMake 1 fn_Table_uinitu (mCons (mC (.int 1)) (mCons (mC (.int 0)) (mCons (mTup (mCons (mTup (mCons (mC (.int 0)) (mCons (mC (.int 1)) mNil))) (mCons (mTup (mCons (mC (.int 1)) (mCons (mC (.int 1)) mNil))) mNil))) (mCons (mTup (mCons (mTup (mCons (mC (.int 0)) (mCons (mC (.int 0)) mNil))) (mCons (mTup (mCons (mC (.int 0)) (mCons (mC (.int 1)) mNil))) mNil))) (mCons (mTup (mCons (mC (.int 1)) mNil)) mNil)))))))
def lrest : MS := (mRet (mOp2 eqD (mToldX excL tc_l_met (some "") (mMakeX 1 fn_x_Table_uinitu (mCons (mC (.int 0)) (mCons (mC (.int 0)) (mCons (mTup (mCons (mTup (mCons (mC (.int 0)) mNil)) mNil)) (mCons (mTup (mCons (mTup (mCons (mC (.int 0)) mNil)) mNil)) (mCons (mTup mNil) mNil))))))) (mC (.str ""))))
theorem law_split : m_lawX = mSeq lfirst (mSeq p_lawX_1 lrest) := rfl
theorem first_ok (z : D) : lfirst [.val z, .non, .non, .non, .non] = .ok .nx (fW z .non .non .non) := by kernel_rfl
theorem last_ok (z : D) (s2 s5 s6 : Sl) : yesR (lrest (fW z s2 s5 s6)) = true := by kernel_rfl
theorem law_true (ns : List Int) (hl : ns.length ≤ 63) : fn_lawX none [.scr (ns.map D.int)] = .ret (.bl true, false) none := by
  obtain ⟨n, hn, er⟩ := rng_ok ns
  obtain ⟨s2, s5, s6, el⟩ := outer ns n 0 .non .non .non (by omega) True.intro rfl True.intro
  have lp : p_lawX_1 (fW (.scr (ns.map D.int)) .non .non .non) = .ok .nx (fW (.scr (ns.map D.int)) s2 s5 s6) := by
    unfold p_lawX_1 mFor
    rw [er _ rfl]
    rw [Nat.zero_add] at el
    exact el
  obtain ⟨ρ', r⟩ := yes_some (last_ok (.scr (ns.map D.int)) s2 s5 s6)
  refine nx_ret rfl (ρ := ρ') ?_
  show m_lawX [.val (.scr (ns.map D.int)), .non, .non, .non, .non] = _
  rw [law_split, seq_nx (first_ok _), seq_nx lp]
  exact r
end PM.G

open PySem PySem.W PySem.Calls PyProof.Rows
set_option maxHeartbeats 0 in
theorem PySem.Challenge.cw_seamsayings_k50_errors_of_tables_holds : PySem.Challenge.rw_seamsayings_k50_errors_of_tables.Holds := by
  w_on; o_law
  refine HandSHeadRun.head_any (r := OpenLaw.row PySem.Challenge.rw_seamsayings_k50_errors_of_tables) (q := view (OpenLaw.row PySem.Challenge.rw_seamsayings_k50_errors_of_tables).prog [65]) (H := PM.G.hk) (ob := PM.G.ob) (M := 8000) (loose := PM.G.names) (d := HandSHeadRun.topDef (OpenLaw.row PySem.Challenge.rw_seamsayings_k50_errors_of_tables).prog 65) (kwd := []) PM.G.ob_eq (by kernel_rfl) (fun s => by kernel_rfl) PM.G.run (by kernel_rfl) (by kernel_rfl) (by kernel_rfl) (by rfl) (by first | assumption | decide +kernel) (by decide +kernel) ⟨rfl, rfl, rfl, rfl, rfl, by decide +kernel⟩ ?hw ?hc
  case hw => w_witness2
  case hc =>
    refine PM.walk_GT (l := PySem.Challenge.rw_seamsayings_k50_errors_of_tables) (n := 63) (k := 20) (x := "_law_script") (Z := L2.CX0) rfl (by decide) (by kernel_rfl) ⟨rfl, by decide, by decide⟩ rfl ?F (fun _ _ _ _ z => z)
    intro w mg fa h Y G hmg0
    obtain ⟨K, KX, c, t, tn⟩ := Y
    have hmg : mg ("law" : PySem.Str) = some (.ref fa) := by
      have e : (HandSHeadRun.topDef (OpenLaw.row PySem.Challenge.rw_seamsayings_k50_errors_of_tables).prog 65).name = ("law" : PySem.Str) := by kernel_rfl
      rw [← e]
      exact hmg0
    obtain ⟨a, fd, hm, hb, F⟩ := PM.G.top_law (TT := PM.tabW PM.G.lamN K) (PM.G.tx KX G c.m.1)
    have ea := hm.symm.trans hmg
    cases ea
    obtain ⟨c1, c2, c3⟩ := PM.tabCs_ok t
    exact ⟨K, fd, PM.spT ((PM.G.wd K w).wT (PM.tabW PM.G.lamN K)) 1 PM.G.fn_lawX, PM.tabCs PM.G.lamN K, KX, c1, c2, c3, hb, fun H a ns hl hO hS => PM.law_spT (w := (PM.G.wd K w).wT (PM.tabW PM.G.lamN K)) (PM.tabW_in PM.G.lamN K) hO hS (PM.G.law_true ns hl), fun b0 _ _ tb => F _ b0 (PM.G.txp c) (PM.tabX_of KX G t tn tb)⟩

