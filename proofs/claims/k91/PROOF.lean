import PyProof.Rows.All
import Wide.All
import OpenK.AllK
import Wide.FinOn
import HandS.ForMost
import HandS.ForExc
import HandS.Wide
import HandS.WideBits
import HandS.WideMore
import HandS.TupAny
import HandS.FStr
import HandS.StrMore
import HandS.Conv
import HandS.Zip
import HandS.Strs
import HandS.SetKeys
import HandS.IsInst
import HandS.Flow
import HandS.Finally
import HandS.TryOnly
import HandS.TryElse
import HandS.TryMany
import HandS.SortInts
import HandS.SortKw
import HandS.SortRule
import HandS.TupSets
import HandS.Defaults
import HandS.MakeKwOnly
import HandS.Deep
import HandS.DictComp
import HandS.WrittenGet
import HandS.ExcInit
import HandS.ExcSuper
import HandS.ExcIs
import HandS.ExcField
import HandS.ExcCtx
import HandS.RevTup
import HandS.TupLe
import HandS.Style
import HandS.Lambda
import HandS.AnyAll
import HandS.ListItems
import HandS.HeadEnd
import HandS.HeadHook1
import HandS.HeadHook2
import HandS.HeadHook3
import HandS.HeadHook4
import HandS.Head0
import HandS.Head1
import HandS.Head2
import HandS.HeadWalk
import HandS.OwnEq
import HandS.CallLocal
import HandS.CallSlots
import HandS.Codes
import HandS.Small
import HandS.ExcBuiltin
import HandS.SetTxtIn
import HandS.NoneIn
import HandS.Walk
import KE.GoesNew
import KE.GoesEnum
import PySem.Challenge.RW_whoserves_k91_texts_there_and_back
set_option Elab.async false
set_option linter.all false
set_option maxRecDepth 100000
set_option maxHeartbeats 4000000
/-! QA: values as trees, the heap of what may change, lifted readings -/
namespace Q
open PySem PySem.Spec PyProof.Rows L2

/-- a value: tuples are trees; rol: a list that never changes (the script) -/
inductive D where
  | non | bl (b : Bool) | int (i : Int) | str (x : Str) | tup (ds : List D) | rol (ds : List D) | ref (a : Addr) | ty (n : String)

inductive GO where
  | lst (ds : List D)
  | dK (kvs : List (Key × D))
  | rod (kvs : List (Key × D))
  | ins (c : Str) (fs : List (Str × D))

abbrev GH := Addr → Option GO
def gupd (G : GH) (a : Addr) (o : GO) : GH := fun b => if b = a then some o else G b
@[simp] theorem gupd_same {G : GH} {a : Addr} {o : GO} : gupd G a o a = some o := by simp [gupd]
theorem gupd_ne {G : GH} {a b : Addr} {o : GO} (h : b ≠ a) : gupd G a o b = G b := by simp [gupd, h]
@[simp] theorem gupd_gupd {G : GH} {a : Addr} {o u : GO} : gupd (gupd G a o) a u = gupd G a u := by
  funext b
  by_cases h : b = a <;> simp [gupd, h]
theorem gupd_comm {G : GH} {a b : Addr} {o u : GO} (h : a ≠ b) : gupd (gupd G a o) b u = gupd (gupd G b u) a o := by
  funext c
  by_cases h1 : c = a
  · subst h1; simp [gupd, h]
  · by_cases h2 : c = b
    · subst h2; simp [gupd, h1]
    · simp [gupd, h1, h2]
theorem gupd_eq {G : GH} {a : Addr} {o : GO} (h : G a = some o) : gupd G a o = G := by
  funext b
  by_cases e : b = a
  · subst e; simp [gupd, h]
  · simp [gupd, e]
theorem ne_g {G : GH} {a b : Addr} {o : GO} (h : G a = some o) (h' : G b = none) : a ≠ b := by
  intro e; subst e; rw [h] at h'; cases h'

/-- a list that never changes -/
def FrL (K : PySem.W.Frag) (H : Hp) (a : Addr) (xs : List V) : Prop := (∃ o, H a = some (.frz o (.lst xs))) ∨ SqL K (fun _ => none) a xs
theorem FrL.sq {K : PySem.W.Frag} {H : Hp} {a : Addr} {xs : List V} (h : FrL K H a xs) : SqL K H a xs := by
  rcases h with ⟨o, h⟩ | h
  · exact .inl (.inr ⟨o, h⟩)
  · rcases h with (h | ⟨o, h⟩) | h
    · cases h
    · cases h
    · exact .inr h

section
variable (K : PySem.W.Frag)
mutual
def Rep (H : Hp) : D → V → Prop
  | .non, v => v = .non
  | .bl b, v => v = .bl b
  | .int i, v => v = .int i
  | .str x, v => v = .str x
  | .ref a, v => v = .ref a
  | .ty n, v => v = .ty n
  | .tup ds, v => ∃ a xs, v = .ref a ∧ SqT K H a xs ∧ Reps H ds xs
  | .rol ds, v => ∃ a xs, v = .ref a ∧ FrL K H a xs ∧ Reps H ds xs
def Reps (H : Hp) : List D → List V → Prop
  | [], vs => vs = []
  | d :: ds, vs => ∃ v r, vs = v :: r ∧ Rep H d v ∧ Reps H ds r
end
end

/-- tuples and locked things stay -/
structure Keep (H H' : Hp) : Prop where
  tup : ∀ a xs, H a = some (.tup xs) → H' a = some (.tup xs)
  frz : ∀ a o u, H a = some (.frz o u) → H' a = some (.frz o u)
theorem Keep.refl (H : Hp) : Keep H H := ⟨fun _ _ h => h, fun _ _ _ h => h⟩
theorem Keep.trans {H H1 H2 : Hp} (a : Keep H H1) (b : Keep H1 H2) : Keep H H2 := ⟨fun c xs h => b.tup c xs (a.tup c xs h), fun c o u h => b.frz c o u (a.frz c o u h)⟩
theorem Keep.new {H : Hp} {p : Addr} {o : HO} (h : H p = none) : Keep H (upd H p o) :=
  ⟨fun a xs e => by rw [upd_ne (ne_of_none e h)]; exact e, fun a u x e => by rw [upd_ne (ne_of_none e h)]; exact e⟩
theorem Keep.put {H : Hp} {p : Addr} {o o' : HO} (h : H p = some o) (h1 : ∀ xs, o ≠ .tup xs) (h2 : ∀ u x, o ≠ .frz u x) : Keep H (upd H p o') :=
  ⟨fun a xs e => by rw [upd_ne (ne_of e h (fun z => h1 xs z.symm))]; exact e, fun a u x e => by rw [upd_ne (ne_of e h (fun z => h2 u x z.symm))]; exact e⟩
theorem Keep.sqT {K : PySem.W.Frag} {H H' : Hp} {a : Addr} {xs : List V} (k : Keep H H') (h : SqT K H a xs) : SqT K H' a xs := by
  rcases h with (h | ⟨o, h⟩) | h
  · exact .inl (.inl (k.tup _ _ h))
  · exact .inl (.inr ⟨o, k.frz _ _ _ h⟩)
  · exact .inr h
theorem Keep.frL {K : PySem.W.Frag} {H H' : Hp} {a : Addr} {xs : List V} (k : Keep H H') (h : FrL K H a xs) : FrL K H' a xs := by
  rcases h with ⟨o, h⟩ | h
  · exact .inl ⟨o, k.frz _ _ _ h⟩
  · exact .inr h

section
variable {K : PySem.W.Frag} {H H' : Hp}
mutual
theorem Rep.keep (k : Keep H H') : ∀ (d : D) (v : V), Rep K H d v → Rep K H' d v
  | .non, v, h => by simpa [Rep] using h
  | .bl b, v, h => by simpa [Rep] using h
  | .int i, v, h => by simpa [Rep] using h
  | .str x, v, h => by simpa [Rep] using h
  | .ref a, v, h => by simpa [Rep] using h
  | .ty n, v, h => by simpa [Rep] using h
  | .tup ds, v, h => by
    rw [Rep] at h ⊢
    obtain ⟨a, xs, e, s, r⟩ := h
    exact ⟨a, xs, e, k.sqT s, Reps.keep k ds xs r⟩
  | .rol ds, v, h => by
    rw [Rep] at h ⊢
    obtain ⟨a, xs, e, s, r⟩ := h
    exact ⟨a, xs, e, k.frL s, Reps.keep k ds xs r⟩
theorem Reps.keep (k : Keep H H') : ∀ (ds : List D) (vs : List V), Reps K H ds vs → Reps K H' ds vs
  | [], vs, h => by simpa [Reps] using h
  | d :: ds, vs, h => by
    rw [Reps] at h ⊢
    obtain ⟨v, r, e, h1, h2⟩ := h
    exact ⟨v, r, e, Rep.keep k d v h1, Reps.keep k ds r h2⟩
end
theorem Reps.length : ∀ {ds : List D} {vs : List V}, Reps K H ds vs → vs.length = ds.length
  | [], vs, h => by rw [Reps] at h; subst h; rfl
  | d :: ds, vs, h => by
    rw [Reps] at h
    obtain ⟨v, r, rfl, h1, h2⟩ := h
    simp [Reps.length h2]
theorem Reps.get : ∀ {ds : List D} {vs : List V} {i : Nat} {v : V}, Reps K H ds vs → vs[i]? = some v → ∃ d, ds[i]? = some d ∧ Rep K H d v
  | [], vs, i, v, h, e => by rw [Reps] at h; subst h; simp at e
  | d :: ds, vs, 0, v, h, e => by
    rw [Reps] at h
    obtain ⟨w, r, rfl, h1, h2⟩ := h
    simp at e; subst e
    exact ⟨d, rfl, h1⟩
  | d :: ds, vs, i + 1, v, h, e => by
    rw [Reps] at h
    obtain ⟨w, r, rfl, h1, h2⟩ := h
    simpa using Reps.get (i := i) h2 (by simpa using e)
theorem Reps.get' : ∀ {ds : List D} {vs : List V} {i : Nat} {d : D}, Reps K H ds vs → ds[i]? = some d → ∃ v, vs[i]? = some v ∧ Rep K H d v
  | [], vs, i, d, h, e => by simp at e
  | d :: ds, vs, 0, v, h, e => by
    rw [Reps] at h
    obtain ⟨w, r, rfl, h1, h2⟩ := h
    simp at e; subst e
    exact ⟨w, rfl, h1⟩
  | d :: ds, vs, i + 1, v, h, e => by
    rw [Reps] at h
    obtain ⟨w, r, rfl, h1, h2⟩ := h
    simpa using Reps.get' (i := i) h2 (by simpa using e)
theorem Reps.append : ∀ {ds es : List D} {vs us : List V}, Reps K H ds vs → Reps K H es us → Reps K H (ds ++ es) (vs ++ us)
  | [], es, vs, us, h, h' => by rw [Reps] at h; subst h; exact h'
  | d :: ds, es, vs, us, h, h' => by
    rw [Reps] at h
    obtain ⟨w, r, rfl, h1, h2⟩ := h
    show Reps K H (d :: (ds ++ es)) (w :: (r ++ us))
    rw [Reps]
    exact ⟨w, r ++ us, rfl, h1, Reps.append h2 h'⟩
theorem Reps.nil : Reps K H [] [] := by rw [Reps]
theorem Reps.cons {d : D} {ds : List D} {v : V} {vs : List V} (h : Rep K H d v) (r : Reps K H ds vs) : Reps K H (d :: ds) (v :: vs) := by
  rw [Reps]; exact ⟨v, vs, rfl, h, r⟩
theorem Reps.one {d : D} {v : V} (h : Rep K H d v) : Reps K H [d] [v] := .cons h .nil
theorem Reps.set {d : D} {v : V} (h : Rep K H d v) : ∀ {ds : List D} {vs : List V} (i : Nat), Reps K H ds vs → Reps K H (ds.set i d) (vs.set i v)
  | [], vs, i, r => by rw [Reps] at r; subst r; exact .nil
  | e :: ds, vs, 0, r => by
    rw [Reps] at r
    obtain ⟨w, r', rfl, h1, h2⟩ := r
    exact .cons h h2
  | e :: ds, vs, i + 1, r => by
    rw [Reps] at r
    obtain ⟨w, r', rfl, h1, h2⟩ := r
    exact .cons h1 (Reps.set h i h2)
theorem Reps.take : ∀ {ds : List D} {vs : List V} (n : Nat), Reps K H ds vs → Reps K H (ds.take n) (vs.take n)
  | [], vs, n, r => by rw [Reps] at r; subst r; simpa using Reps.nil
  | e :: ds, vs, 0, r => by simpa using Reps.nil
  | e :: ds, vs, n + 1, r => by
    rw [Reps] at r
    obtain ⟨w, r', rfl, h1, h2⟩ := r
    exact .cons h1 (Reps.take n h2)
theorem Reps.drop : ∀ {ds : List D} {vs : List V} (n : Nat), Reps K H ds vs → Reps K H (ds.drop n) (vs.drop n)
  | [], vs, n, r => by rw [Reps] at r; subst r; simpa using Reps.nil
  | e :: ds, vs, 0, r => r
  | e :: ds, vs, n + 1, r => by
    rw [Reps] at r
    obtain ⟨w, r', rfl, h1, h2⟩ := r
    exact Reps.drop n h2
theorem Reps.reverse : ∀ {ds : List D} {vs : List V}, Reps K H ds vs → Reps K H ds.reverse vs.reverse
  | [], vs, r => by rw [Reps] at r; subst r; exact .nil
  | e :: ds, vs, r => by
    rw [Reps] at r
    obtain ⟨w, r', rfl, h1, h2⟩ := r
    rw [List.reverse_cons, List.reverse_cons]
    exact (Reps.reverse h2).append (.one h1)
end

/-- pairs of a dict -/
def KRep (K : PySem.W.Frag) (H : Hp) {κ : Type} (kvs : List (κ × D)) (kws : List (κ × V)) : Prop := kvs.map (·.1) = kws.map (·.1) ∧ Reps K H (kvs.map (·.2)) (kws.map (·.2))
theorem KRep.keep {K : PySem.W.Frag} {H H' : Hp} {κ : Type} {kvs : List (κ × D)} {kws : List (κ × V)} (k : Keep H H') (r : KRep K H kvs kws) : KRep K H' kvs kws := ⟨r.1, Reps.keep k _ _ r.2⟩

def ObjR (K : PySem.W.Frag) (mg : Str → Option Value) (H : Hp) (a : Addr) : GO → Prop
  | .lst ds => ∃ vs, H a = some (.lst vs) ∧ Reps K H ds vs
  | .dK kvs => ∃ kws, H a = some (.dK kws) ∧ KRep K H kvs kws
  | .rod kvs => ∃ kws o, H a = some (.frz o (.dK kws)) ∧ KRep K H kvs kws
  | .ins c fs => ∃ C dx gs, mg c = some (.ref C) ∧ H a = some (.ins C dx gs) ∧ KRep K H fs gs
def Sim (K : PySem.W.Frag) (mg : Str → Option Value) (G : GH) (H : Hp) : Prop := ∀ a o, G a = some o → ObjR K mg H a o
section
variable {K : PySem.W.Frag} {mg : Str → Option Value} {G : GH} {H H' : Hp} {a p : Addr} {o : GO} {u : HO}
theorem ObjR.some (r : ObjR K mg H a o) : ∃ u, H a = some u ∧ ∀ xs, u ≠ .tup xs := by
  cases o with
  | lst ds => obtain ⟨vs, e, _⟩ := r; exact ⟨_, e, fun _ z => by cases z⟩
  | dK kvs => obtain ⟨vs, e, _⟩ := r; exact ⟨_, e, fun _ z => by cases z⟩
  | rod kvs => obtain ⟨vs, o, e, _⟩ := r; exact ⟨_, e, fun _ z => by cases z⟩
  | ins c fs => obtain ⟨_, _, _, _, e, _⟩ := r; exact ⟨_, e, fun _ z => by cases z⟩
/-- the object itself and tuples stay -/
theorem ObjR.stay (r : ObjR K mg H a o) (k : Keep H H') (e : H' a = H a) : ObjR K mg H' a o := by
  cases o with
  | lst ds => obtain ⟨vs, h, q⟩ := r; exact ⟨vs, e.trans h, Reps.keep k _ _ q⟩
  | dK kvs => obtain ⟨vs, h, q⟩ := r; exact ⟨vs, e.trans h, q.keep k⟩
  | rod kvs => obtain ⟨vs, o, h, q⟩ := r; exact ⟨vs, o, e.trans h, q.keep k⟩
  | ins c fs => obtain ⟨C, dx, gs, m, h, q⟩ := r; exact ⟨C, dx, gs, m, e.trans h, q.keep k⟩
theorem Sim.free (s : Sim K mg G H) (h : H p = none) : G p = none := by
  cases e : G p with
  | none => rfl
  | some o =>
    obtain ⟨u, q, _⟩ := (s p o e).some
    rw [h] at q; cases q
theorem Sim.same (s : Sim K mg G H) (k : Keep H H') (e : ∀ a o, G a = some o → H' a = H a) : Sim K mg G H' := fun a o h => (s a o h).stay k (e a o h)
/-- a new object that is not followed (a tuple) -/
theorem Sim.skip (s : Sim K mg G H) (h : H p = none) : Sim K mg G (upd H p u) := s.same (.new h) fun a o e => by
  obtain ⟨u, q, _⟩ := (s a o e).some
  exact upd_ne (ne_of_none q h)
theorem Sim.put (s : Sim K mg G H) (k : Keep H (upd H p u)) (r : ObjR K mg (upd H p u) p o) : Sim K mg (gupd G p o) (upd H p u) := fun a o' e => by
  by_cases h : a = p
  · subst h
    rw [gupd_same] at e; cases e
    exact r
  · rw [gupd_ne h] at e
    exact (s a o' e).stay k (upd_ne h)
theorem Sim.new (s : Sim K mg G H) (h : H p = none) (r : ObjR K mg (upd H p u) p o) : Sim K mg (gupd G p o) (upd H p u) := s.put (.new h) r
/-- forgetting -/
theorem Sim.less {G' : GH} (s : Sim K mg G H) (h : ∀ a o, G' a = some o → G a = some o) : Sim K mg G' H := fun a o e => s a o (h a o e)
end

/-! ### slots -/
abbrev SD := List (Option D)
inductive RepO (K : PySem.W.Frag) (H : Hp) : Option D → Option V → Prop
  | some {d v} (r : Rep K H d v) : RepO K H (some d) (some v)
  | none {v} : RepO K H none v
/-- the slots: a D that is known has its value there -/
def RepS (K : PySem.W.Frag) (H : Hp) (δ : SD) (σ : L2.St) : Prop := δ.length = σ.length ∧ ∀ (i : Nat) d, δ[i]? = some (some d) → ∃ v, σ[i]? = some (some v) ∧ Rep K H d v
theorem RepS.keep {K : PySem.W.Frag} {H H' : Hp} {δ : SD} {σ : L2.St} (r : RepS K H δ σ) (k : Keep H H') : RepS K H' δ σ := ⟨r.1, fun i d e => by
  obtain ⟨v, h, q⟩ := r.2 i d e
  exact ⟨v, h, Rep.keep k _ _ q⟩⟩
theorem RepS.set {K : PySem.W.Frag} {H : Hp} {δ : SD} {σ : L2.St} {i : Nat} {d : D} {v : V} (r : RepS K H δ σ) (h : Rep K H d v) : RepS K H (δ.set i (some d)) (σ.set i (some v)) := ⟨by simp [r.1], fun j e q => by
  by_cases hj : i = j
  · subst hj
    rw [List.getElem?_set] at q
    by_cases hl : i < δ.length
    · simp [hl] at q
      subst q
      exact ⟨v, by rw [List.getElem?_set]; simp [← r.1, hl], h⟩
    · simp [hl] at q
  · rw [List.getElem?_set_ne hj] at q
    obtain ⟨w, h1, h2⟩ := r.2 j e q
    exact ⟨w, by rw [List.getElem?_set_ne hj]; exact h1, h2⟩⟩
end Q
set_option maxHeartbeats 4000000
/-! QB: lifted judgements; names, constants, operators, tests -/
namespace Q
open PySem PySem.Spec PyProof.Rows L2

abbrev QK := D → GH → Prop
abbrev ED := SD → GH → QK → Prop
abbrev TD := SD → GH → (Bool → GH → Prop) → Prop
abbrev AD := SD → GH → (List D → GH → Prop) → Prop
structure EndD where
  nx : SD → GH → Prop
  rt : QK
  bk : SD → GH → Prop := fun _ _ => False
  ct : SD → GH → Prop := fun _ _ => False
abbrev BD := EndD → SD → GH → Prop

section
variable (K : PySem.W.Frag) (mg : Str → Option Value) (H0 : Hp)
/-- the state, told by δ and G -/
structure StOk (H : Hp) (σ : L2.St) (δ : SD) (G : GH) : Prop where
  kp : Keep H0 H
  sl : RepS K H δ σ
  sm : Sim K mg G H
structure VOk (H H' : Hp) (G' : GH) : Prop where
  kp : Keep H H'
  sm : Sim K mg G' H'
def star (t : ED) : TE := fun σ H R => ∃ G δ Q, StOk K mg H0 H σ δ G ∧ t δ G Q ∧ ∀ v H' d G', VOk K mg H H' G' → Rep K H' d v → Q d G' → R v H'
def starT (t : TD) : TT := fun σ H R => ∃ G δ Q, StOk K mg H0 H σ δ G ∧ t δ G Q ∧ ∀ v H' G', VOk K mg H H' G' → Q v G' → R v H'
def starA (t : AD) : TA := fun σ H R => ∃ G δ Q, StOk K mg H0 H σ δ G ∧ t δ G Q ∧ ∀ vs H' ds G', VOk K mg H H' G' → Reps K H' ds vs → Q ds G' → R vs H'
/-- what is wanted behind a statement -/
structure EndOk (H : Hp) (E : EndD) (D : Ends) : Prop where
  nx : ∀ σ' H' δ' G', Keep H H' → StOk K mg H0 H' σ' δ' G' → E.nx δ' G' → D.nx σ' H'
  rt : ∀ v H' d G', VOk K mg H H' G' → Rep K H' d v → E.rt d G' → D.rt v H'
  bk : ∀ σ' H' δ' G', Keep H H' → StOk K mg H0 H' σ' δ' G' → E.bk δ' G' → D.bk σ' H'
  ct : ∀ σ' H' δ' G', Keep H H' → StOk K mg H0 H' σ' δ' G' → E.ct δ' G' → D.ct σ' H'
def starS (t : BD) : TS := fun Dn σ H => ∃ G δ E, StOk K mg H0 H σ δ G ∧ t E δ G ∧ EndOk K mg H0 H E Dn
end
section
variable {K : PySem.W.Frag} {mg : Str → Option Value} {H0 H H1 H' : Hp} {σ : L2.St} {δ : SD} {G G1 : GH} {E : EndD} {Dn : Ends}
theorem StOk.step (s : StOk K mg H0 H σ δ G) (v : VOk K mg H H1 G1) : StOk K mg H0 H1 σ δ G1 := ⟨s.kp.trans v.kp, s.sl.keep v.kp, v.sm⟩
theorem StOk.vok (s : StOk K mg H0 H σ δ G) : VOk K mg H H G := ⟨.refl _, s.sm⟩
theorem VOk.trans (a : VOk K mg H H1 G1) (b : VOk K mg H1 H' G) : VOk K mg H H' G := ⟨a.kp.trans b.kp, b.sm⟩
theorem VOk.refl (s : Sim K mg G H) : VOk K mg H H G := ⟨.refl _, s⟩
theorem EndOk.step (e : EndOk K mg H0 H E Dn) (k : Keep H H1) : EndOk K mg H0 H1 E Dn :=
  ⟨fun σ' H' δ' G' q => e.nx σ' H' δ' G' (k.trans q), fun v H' d G' q => e.rt v H' d G' ⟨k.trans q.kp, q.sm⟩, fun σ' H' δ' G' q => e.bk σ' H' δ' G' (k.trans q), fun σ' H' δ' G' q => e.ct σ' H' δ' G' (k.trans q)⟩
end

section
variable (X : Cx) (H0 : Hp)
def PEd (e : Expr) (t : ED) : Prop := PE X e (star X.K X.mg H0 t)
def PTd (e : Expr) (t : TD) : Prop := PT X e (starT X.K X.mg H0 t)
def PWd (e : Expr) (t : TD) : Prop := PW X e (starT X.K X.mg H0 t)
def PAd (es : List Expr) (t : AD) : Prop := PA X es (starA X.K X.mg H0 t)
def PSd (st : Stmt) (t : BD) : Prop := PS X st (starS X.K X.mg H0 t)
def PSsd (st : List Stmt) (t : BD) : Prop := PSs X st (starS X.K X.mg H0 t)
def PCd (op : CmpOp) (a b : Expr) (t : ED) : Prop := PC X op a b (star X.K X.mg H0 t)
end

section
variable {X : Cx} {H0 : Hp} {e a b c : Expr} {pos : Pos}
theorem PE.imp {te te' : TE} (h : PE X e te) (k : ∀ σ H R, te' σ H R → te σ H R) : PE X e te' := ⟨fun pins s σ H Q I q => h.run pins s σ H Q I (k σ H Q q)⟩
theorem PT.imp {te te' : TT} (h : PT X e te) (k : ∀ σ H R, te' σ H R → te σ H R) : PT X e te' := ⟨fun pins s σ H Q I q => h.run pins s σ H Q I (k σ H Q q)⟩
theorem PW.imp {te te' : TT} (h : PW X e te) (k : ∀ σ H R, te' σ H R → te σ H R) : PW X e te' := ⟨fun wh pins s σ H Q I q => h.run wh pins s σ H Q I (k σ H Q q)⟩
theorem PA.imp {es : List Expr} {te te' : TA} (h : PA X es te) (k : ∀ σ H R, te' σ H R → te σ H R) : PA X es te' := ⟨fun pos pins s σ H Q I q => h.run pos pins s σ H Q I (k σ H Q q)⟩
theorem PS.imp {st : Stmt} {te te' : TS} (h : PS X st te) (k : ∀ Dn σ H, te' Dn σ H → te Dn σ H) : PS X st te' := ⟨fun pins s σ H Q I q => h.run pins s σ H Q I (k Q σ H q)⟩
theorem PSs.imp {st : List Stmt} {te te' : TS} (h : PSs X st te) (k : ∀ Dn σ H, te' Dn σ H → te Dn σ H) : PSs X st te' := ⟨fun pins s σ H Q I q => h.run pins s σ H Q I (k Q σ H q)⟩

/-! ### names, constants -/
def dVar (i : Nat) : ED := fun δ G Q => match δ[i]? with | some (some d) => Q d G | _ => False
def dC (d : D) : ED := fun _ G Q => Q d G
theorem d_of {te : TE} {t : ED} (h : PE X e te) (k : ∀ σ H R G δ Q, StOk X.K X.mg H0 H σ δ G → t δ G Q → (∀ v H' d G', VOk X.K X.mg H H' G' → Rep X.K H' d v → Q d G' → R v H') → te σ H R) : PEd X H0 e t :=
  PE.imp h fun σ H R ⟨G, δ, Q, s, h, q⟩ => k σ H R G δ Q s h q
theorem d_var (i : Nat) {x : Str} (hN : X.N[i]? = some x := by rfl) (hv : Vis X.env.scope x := by first | exact Or.inl rfl | exact Or.inr (Or.inl rfl) | exact Or.inr (Or.inr rfl)) (hd : (x == ("__debug__" : Str)) = false := by decide)
    (hcd : (x == ("__classdict__" : Str)) = false := by decide) : PEd X H0 (.Name x pos) (dVar i) := d_of (pe_var hN hv hd hcd) fun σ H R G δ Q s h q => by
  unfold dVar at h
  split at h
  · rename_i d e
    obtain ⟨v, h1, h2⟩ := s.sl.2 i d e
    exact ⟨v, h1, q v H d G s.vok h2 h⟩
  · exact h.elim
theorem d_c {v : V} {d : D} (h : PE X e (tC v)) (r : ∀ H, Rep X.K H d v) : PEd X H0 e (dC d) := d_of h fun σ H R G δ Q s h q => q v H d G s.vok (r H) h
theorem d_int {i : Int} {j : Nat} : PEd X H0 (.Constant (.int i) j pos) (dC (.int i)) := d_c pe_int fun H => by rw [Rep]
theorem d_bl {b : Bool} {j : Nat} : PEd X H0 (.Constant (.bool b) j pos) (dC (.bl b)) := d_c pe_bl fun H => by rw [Rep]
theorem d_non {j : Nat} : PEd X H0 (.Constant .none j pos) (dC .non) := d_c pe_non fun H => by rw [Rep]
theorem d_str {x : Str} {j : Nat} : PEd X H0 (.Constant (.str x) j pos) (dC (.str x)) := d_c pe_str fun H => by rw [Rep]
/-- a constant of the module: an int, a text, a tuple of such -/
def KC (K : PySem.W.Frag) (d : D) (u : Value) : Prop := ∃ v, RelV v u ∧ ∀ H, Rep K H d v
theorem d_glob {x : Str} {d : D} {u : Value} (hm : X.mg x = some u) (r : KC X.K d u) (hg : Gl X x := by rfl) (hd : (x == ("__debug__" : Str)) = false := by decide) : PEd X H0 (.Name x pos) (dC d) := by
  obtain ⟨v, rv, h⟩ := r
  exact d_c (pe_glob hg hm rv hd) h

/-! ### operators -/
abbrev R2D := D → D → GH → QK → Prop
/-- an operator's rule by values -/
def OpD (X : Cx) (f : Value → Value → Sem Value) (rd : R2D) : Prop := ∃ r : R2, OpR X f r ∧ ∀ H G x y dx dy Q R, Sim X.K X.mg G H → Rep X.K H dx x → Rep X.K H dy y → rd dx dy G Q →
  (∀ v H' d G', VOk X.K X.mg H H' G' → Rep X.K H' d v → Q d G' → R v H') → r x y H R
theorem OpD.or {f : Value → Value → Sem Value} {r r' rd : R2D} (h : OpD X f r) (h' : OpD X f r') (k : ∀ x y G Q, rd x y G Q → r x y G Q ∨ r' x y G Q) : OpD X f rd := by
  obtain ⟨q, h1, h2⟩ := h
  obtain ⟨q', h1', h2'⟩ := h'
  refine ⟨_, OpR.or h1 h1', fun H G x y dx dy Q R s rx ry hr hk => ?_⟩
  rcases k _ _ _ _ hr with z | z
  · exact .inl (h2 H G x y dx dy Q R s rx ry z hk)
  · exact .inr (h2' H G x y dx dy Q R s rx ry z hk)
def dOp (r : R2D) (ta tb : ED) : ED := fun δ G Q => ta δ G fun x G1 => tb δ G1 fun y G2 => r x y G2 Q
theorem star_bin {ta tb : ED} {r : R2} {rd : R2D} (hr : ∀ H G x y dx dy Q R, Sim X.K X.mg G H → Rep X.K H dx x → Rep X.K H dy y → rd dx dy G Q →
    (∀ v H' d G', VOk X.K X.mg H H' G' → Rep X.K H' d v → Q d G' → R v H') → r x y H R) {σ : L2.St} {H : Hp} {R : VK} (h : star X.K X.mg H0 (dOp rd ta tb) σ H R) : tOp r (star X.K X.mg H0 ta) (star X.K X.mg H0 tb) σ H R := by
  obtain ⟨G, δ, Q, s, h, q⟩ := h
  refine ⟨G, δ, _, s, h, fun x H1 dx G1 v1 r1 h1 => ⟨G1, δ, _, s.step v1, h1, fun y H2 dy G2 v2 r2 h2 => ?_⟩⟩
  exact hr H2 G2 x y dx dy Q R v2.sm (Rep.keep v2.kp _ _ r1) r2 h2 fun v H' d G' v3 => q v H' d G' ((v1.trans v2).trans v3)
theorem d_op {op : Operator} {rd : R2D} {ta tb : ED} (ho : OpD X (binaryOp op) rd) (ha : PEd X H0 a ta) (hb : PEd X H0 b tb) : PEd X H0 (.BinOp a op b pos) (dOp rd ta tb) := by
  obtain ⟨r, h1, h2⟩ := ho
  exact PE.imp (pe_op h1 ha hb) fun σ H R h => star_bin h2 h
theorem d_cmp {op : CmpOp} {rd : R2D} {ta tb : ED} (ho : OpD X (compareOp op) rd) (ha : PEd X H0 a ta) (hb : PEd X H0 b tb) (hm : behindInMarks op b = false := by first | exact nomark _ | rfl) : PEd X H0 (.Compare a [op] [b] pos) (dOp rd ta tb) := by
  obtain ⟨r, h1, h2⟩ := ho
  exact PE.imp (pe_cmpR h1 ha hb hm) fun σ H R h => star_bin h2 h

def isI : D → D → (Int → Int → Prop) → Prop
  | .int i, .int j, P => P i j
  | _, _, _ => False
theorem isI_ex {x y : D} {P : Int → Int → Prop} (h : isI x y P) : ∃ i j, x = .int i ∧ y = .int j ∧ P i j := by
  unfold isI at h
  split at h
  · exact ⟨_, _, rfl, rfl, h⟩
  · exact h.elim
theorem rep_int {K : PySem.W.Frag} {H : Hp} {i : Int} {v : V} : Rep K H (.int i) v ↔ v = .int i := by rw [Rep]
theorem rep_bl {K : PySem.W.Frag} {H : Hp} {i : Bool} {v : V} : Rep K H (.bl i) v ↔ v = .bl i := by rw [Rep]
theorem rep_str {K : PySem.W.Frag} {H : Hp} {i : Str} {v : V} : Rep K H (.str i) v ↔ v = .str i := by rw [Rep]
theorem rep_ref {K : PySem.W.Frag} {H : Hp} {i : Addr} {v : V} : Rep K H (.ref i) v ↔ v = .ref i := by rw [Rep]
theorem rep_non {K : PySem.W.Frag} {H : Hp} {v : V} : Rep K H .non v ↔ v = .non := by rw [Rep]
theorem rep_ty {K : PySem.W.Frag} {H : Hp} {i : String} {v : V} : Rep K H (.ty i) v ↔ v = .ty i := by rw [Rep]
theorem rep_tup {K : PySem.W.Frag} {H : Hp} {ds : List D} {v : V} : Rep K H (.tup ds) v ↔ ∃ a xs, v = .ref a ∧ SqT K H a xs ∧ Reps K H ds xs := by rw [Rep]
theorem rep_rol {K : PySem.W.Frag} {H : Hp} {ds : List D} {v : V} : Rep K H (.rol ds) v ↔ ∃ a xs, v = .ref a ∧ FrL K H a xs ∧ Reps K H ds xs := by rw [Rep]

def rdI (C : Int → Int → Prop) (g : Int → Int → D) : R2D := fun x y G Q => isI x y fun i j => C i j ∧ Q (g i j) G
theorem opD_I {f : Value → Value → Sem Value} {C : Int → Int → Prop} {g : Int → Int → V} {gd : Int → Int → D} (h : OpR X f (rI C g)) (hg : ∀ i j H, Rep X.K H (gd i j) (g i j)) : OpD X f (rdI C gd) := by
  refine ⟨_, h, fun H G x y dx dy Q R s rx ry hr hk => ?_⟩
  obtain ⟨i, j, rfl, rfl, c, q⟩ := isI_ex hr
  rw [rep_int] at rx ry
  exact ⟨i, j, rx, ry, c, hk _ H _ G (.refl s) (hg i j H) q⟩
theorem opD_I0 {f : Value → Value → Sem Value} {g : Int → Int → V} {gd : Int → Int → D} (h : OpR X f (rI0 g)) (hg : ∀ i j H, Rep X.K H (gd i j) (g i j)) : OpD X f (rdI (fun _ _ => True) gd) := by
  refine ⟨_, h, fun H G x y dx dy Q R s rx ry hr hk => ?_⟩
  obtain ⟨i, j, rfl, rfl, c, q⟩ := isI_ex hr
  rw [rep_int] at rx ry
  exact ⟨i, j, rx, ry, hk _ H _ G (.refl s) (hg i j H) q⟩

/-! ### data that is compared, shown -/
mutual
inductive Sees (G : GH) : D → PyData → Prop
  | non : Sees G .non .none
  | bl (b : Bool) : Sees G (.bl b) (.bool b)
  | int (i : Int) : Sees G (.int i) (.int i)
  | str (x : Str) : Sees G (.str x) (.str x)
  | tup {ds : List D} {es : List PyData} : SeesAll G ds es → Sees G (.tup ds) (.tuple es)
  | rol {ds : List D} {es : List PyData} : SeesAll G ds es → Sees G (.rol ds) (.list es)
  | lst {a : Addr} {ds : List D} {es : List PyData} : G a = some (.lst ds) → SeesAll G ds es → Sees G (.ref a) (.list es)
inductive SeesAll (G : GH) : List D → List PyData → Prop
  | nil : SeesAll G [] []
  | cons {d : D} {ds : List D} {e : PyData} {es : List PyData} : Sees G d e → SeesAll G ds es → SeesAll G (d :: ds) (e :: es)
end
section
variable {K : PySem.W.Frag} {mg : Str → Option Value} {G : GH} {H : Hp}
mutual
theorem Sees.dp (s : Sim K mg G H) : ∀ {d : D} {e : PyData} {v : V}, Sees G d e → Rep K H d v → Dp K H v e
  | _, _, v, .non, r => by rw [rep_non] at r; subst r; exact .non
  | _, _, v, .bl b, r => by rw [rep_bl] at r; subst r; exact .bl b
  | _, _, v, .int i, r => by rw [rep_int] at r; subst r; exact .int i
  | _, _, v, .str x, r => by rw [rep_str] at r; subst r; exact .str x
  | _, _, v, .tup h, r => by
    rw [rep_tup] at r
    obtain ⟨a, xs, rfl, q, r⟩ := r
    exact .tup q (SeesAll.dp s h r)
  | _, _, v, .rol h, r => by
    rw [rep_rol] at r
    obtain ⟨a, xs, rfl, q, r⟩ := r
    exact .lst q.sq (SeesAll.dp s h r)
  | _, _, v, .lst (a := a) e h, r => by
    rw [rep_ref] at r
    subst r
    obtain ⟨vs, q, r⟩ := s a _ e
    exact .lst (SqL.of q) (SeesAll.dp s h r)
theorem SeesAll.dp (s : Sim K mg G H) : ∀ {ds : List D} {es : List PyData} {vs : List V}, SeesAll G ds es → Reps K H ds vs → DpAll K H vs es
  | _, _, vs, .nil, r => by rw [Reps] at r; subst r; exact .nil
  | _, _, vs, .cons h t, r => by
    rw [Reps] at r
    obtain ⟨v, r', rfl, r1, r2⟩ := r
    exact .cons (Sees.dp s h r1) (SeesAll.dp s t r2)
end
/-- the items of what may be walked and read by places -/
def SeqG (G : GH) : D → List D → Prop
  | .tup ds, es => ds = es
  | .rol ds, es => ds = es
  | .ref a, es => G a = some (.lst es)
  | _, _ => False
theorem SeqG.get {x : D} {ds : List D} {v : V} (q : SeqG G x ds) (s : Sim K mg G H) (r : Rep K H x v) : ∃ a xs, v = .ref a ∧ (SqL K H a xs ∨ SqT K H a xs) ∧ Reps K H ds xs := by
  cases x with
  | tup es =>
    have e : es = ds := q
    subst e
    rw [rep_tup] at r
    obtain ⟨a, xs, e, h, r⟩ := r
    exact ⟨a, xs, e, .inr h, r⟩
  | rol es =>
    have e : es = ds := q
    subst e
    rw [rep_rol] at r
    obtain ⟨a, xs, e, h, r⟩ := r
    exact ⟨a, xs, e, .inl h.sq, r⟩
  | ref a =>
    rw [rep_ref] at r
    obtain ⟨vs, e, r'⟩ := s a _ (show G a = some (.lst ds) from q)
    exact ⟨a, vs, r, .inl (SqL.of e), r'⟩
  | non => exact q.elim
  | bl _ => exact q.elim
  | int _ => exact q.elim
  | str _ => exact q.elim
  | ty _ => exact q.elim
end

/-! ### the operators -/
def MulOk (i j : Int) : Prop := CMul i j ∨ CMulW i j
def DivOk (i j : Int) : Prop := CDivW i j
def addD : R2D := fun x y G Q => match x, y with
  | .int i, .int j => Q (.int (i + j)) G
  | .str i, .str j => i.length + j.length ≤ sizeLine ∧ Q (.str (i ++ j)) G
  | .tup i, .tup j => i.length + j.length ≤ sizeLine ∧ Q (.tup (i ++ j)) G
  | .ref a, .ref b => ∃ i j, G a = some (.lst i) ∧ G b = some (.lst j) ∧ i.length + j.length ≤ sizeLine ∧ ∀ p, G p = none → Q (.ref p) (gupd G p (.lst (i ++ j)))
  | _, _ => False
def subD : R2D := rdI (fun _ _ => True) fun i j => .int (i - j)
def mulD : R2D := fun x y G Q => match x, y with
  | .int i, .int j => MulOk i j ∧ Q (.int (i * j)) G
  | .tup i, .int j => False
  | _, _ => False
def divD : R2D := rdI DivOk fun i j => .int (i / j)
def modD : R2D := rdI (fun _ j => 0 < j) fun i j => .int (i % j)
def powD : R2D := rdI CPow fun i j => .int (i ^ j.toNat)
def ltD : R2D := rdI (fun _ _ => True) fun i j => .bl (decide (i < j))
def leD : R2D := rdI (fun _ _ => True) fun i j => .bl (decide (i ≤ j))
def gtD : R2D := rdI (fun _ _ => True) fun i j => .bl (decide (j < i))
def geD : R2D := rdI (fun _ _ => True) fun i j => .bl (decide (j ≤ i))
def eqD : R2D := fun x y G Q => match x, y with
  | .int i, .int j => Q (.bl (decide (i = j))) G
  | .str i, .str j => Q (.bl (decide (i = j))) G
  | .bl i, .bl j => Q (.bl (decide (i = j))) G
  | x, y => ∃ d e, Sees G x d ∧ Sees G y e ∧ SeqAt.shaped d = true ∧ SeqAt.shaped e = true ∧ Q (.bl (PyData.eqv d e)) G
def neD : R2D := fun x y G Q => match x, y with
  | .int i, .int j => Q (.bl (!decide (i = j))) G
  | .str i, .str j => Q (.bl (!decide (i = j))) G
  | .bl i, .bl j => Q (.bl (!decide (i = j))) G
  | x, y => ∃ d e, Sees G x d ∧ Sees G y e ∧ SeqAt.shaped d = true ∧ SeqAt.shaped e = true ∧ Q (.bl (!PyData.eqv d e)) G
theorem o_sub : OpD X (binaryOp .Sub) subD := opD_I0 op_sub fun _ _ _ => by rw [Rep]
theorem o_div : OpD X (binaryOp .FloorDiv) divD := opD_I op_fdivW fun _ _ _ => by rw [Rep]
theorem o_mod : OpD X (binaryOp .Mod) modD := opD_I op_mod fun _ _ _ => by rw [Rep]
theorem o_pow : OpD X (binaryOp .Pow) powD := opD_I op_pow fun _ _ _ => by rw [Rep]
theorem o_lt : OpD X (compareOp .Lt) ltD := opD_I0 op_lt fun _ _ _ => by rw [Rep]
theorem o_le : OpD X (compareOp .LtE) leD := opD_I0 op_le fun _ _ _ => by rw [Rep]
theorem o_gt : OpD X (compareOp .Gt) gtD := opD_I0 op_gt fun _ _ _ => by rw [Rep]
theorem o_ge : OpD X (compareOp .GtE) geD := opD_I0 op_ge fun _ _ _ => by rw [Rep]
theorem o_mul : OpD X (binaryOp .Mult) mulD := by
  refine ⟨_, OpR.or op_mul op_mulW, fun H G x y dx dy Q R s rx ry hr hk => ?_⟩
  unfold mulD at hr
  split at hr
  · rename_i i j
    rw [rep_int] at rx ry
    rcases hr.1 with z | z
    · exact .inl ⟨i, j, rx, ry, z, hk _ H _ G (.refl s) (by rw [Rep]) hr.2⟩
    · exact .inr ⟨i, j, rx, ry, z, hk _ H _ G (.refl s) (by rw [Rep]) hr.2⟩
  · exact hr.elim
  · exact hr.elim
theorem o_add : OpD X (binaryOp .Add) addD := by
  refine ⟨_, OpR.or op_add (OpR.or op_add_str (OpR.or op_catA op_cat)), fun H G x y dx dy Q R s rx ry hr hk => ?_⟩
  unfold addD at hr
  split at hr
  · rw [rep_int] at rx ry
    exact .inl ⟨_, _, rx, ry, hk _ H _ G (.refl s) (by rw [Rep]) hr⟩
  · rw [rep_str] at rx ry
    exact .inr (.inl ⟨_, _, rx, ry, hr.1, hk _ H _ G (.refl s) (by rw [Rep]) hr.2⟩)
  · rename_i i j
    rw [rep_tup] at rx ry
    obtain ⟨a, xs, rfl, h1, r1⟩ := rx
    obtain ⟨b, ys, rfl, h2, r2⟩ := ry
    refine .inr (.inr (.inl ⟨a, b, xs, ys, rfl, rfl, h1, h2, by rw [r1.length, r2.length]; exact hr.1, fun e => ?_, fun _ e => ?_, fun _ _ p hp => ?_⟩))
    · subst e
      have : i = [] := by have := r1.length; simpa using this.symm
      subst this
      exact hk _ H _ G (.refl s) (by rw [rep_tup]; exact ⟨b, ys, rfl, h2, r2⟩) hr.2
    · subst e
      have : j = [] := by have := r2.length; simpa using this.symm
      subst this
      exact hk _ H _ G (.refl s) (by rw [rep_tup, List.append_nil]; exact ⟨a, xs, rfl, h1, r1⟩) hr.2
    · refine hk _ _ _ G ⟨.new hp, s.skip hp⟩ ?_ hr.2
      rw [rep_tup]
      exact ⟨p, _, rfl, SqT.of upd_same, (Reps.keep (.new hp) _ _ r1).append (Reps.keep (.new hp) _ _ r2)⟩
  · rename_i a b
    rw [rep_ref] at rx ry
    obtain ⟨i, j, h1, h2, hz, q⟩ := hr
    obtain ⟨vs, e1, r1⟩ := s a _ h1
    obtain ⟨us, e2, r2⟩ := s b _ h2
    refine .inr (.inr (.inr ⟨a, b, vs, us, rx, ry, e1, e2, by rw [r1.length, r2.length]; exact hz, fun p hp => ?_⟩))
    refine hk _ _ _ _ ⟨.new hp, s.new (o := .lst (i ++ j)) hp ⟨_, upd_same, (Reps.keep (.new hp) _ _ r1).append (Reps.keep (.new hp) _ _ r2)⟩⟩ (by rw [Rep]) (q p (s.free hp))
  · exact hr.elim
theorem o_eq (hu : X.A.units + 64 < cLine) : OpD X (compareOp .Eq) eqD := by
  refine ⟨_, OpR.or op_eq (op_eqD hu), fun H G x y dx dy Q R s rx ry hr hk => ?_⟩
  unfold eqD at hr
  split at hr
  · rw [rep_int] at rx ry; subst rx; subst ry
    exact .inl ⟨rfl, hk _ H _ G (.refl s) (by rw [Rep]; simp) hr⟩
  · rw [rep_str] at rx ry; subst rx; subst ry
    exact .inl ⟨rfl, hk _ H _ G (.refl s) (by rw [Rep]; simp) hr⟩
  · rw [rep_bl] at rx ry; subst rx; subst ry
    exact .inl ⟨rfl, hk _ H _ G (.refl s) (by rw [Rep]; simp) hr⟩
  · obtain ⟨d, e, h1, h2, s1, s2, q⟩ := hr
    exact .inr ⟨d, e, h1.dp s rx, h2.dp s ry, s1, s2, hk _ H _ G (.refl s) (by rw [Rep]) q⟩
theorem o_ne (hu : X.A.units + 64 < cLine) : OpD X (compareOp .NotEq) neD := by
  refine ⟨_, OpR.or op_ne (op_neD hu), fun H G x y dx dy Q R s rx ry hr hk => ?_⟩
  unfold neD at hr
  split at hr
  · rw [rep_int] at rx ry; subst rx; subst ry
    exact .inl ⟨rfl, hk _ H _ G (.refl s) (by rw [Rep]; simp) hr⟩
  · rw [rep_str] at rx ry; subst rx; subst ry
    exact .inl ⟨rfl, hk _ H _ G (.refl s) (by rw [Rep]; simp) hr⟩
  · rw [rep_bl] at rx ry; subst rx; subst ry
    exact .inl ⟨rfl, hk _ H _ G (.refl s) (by rw [Rep]; simp) hr⟩
  · obtain ⟨d, e, h1, h2, s1, s2, q⟩ := hr
    exact .inr ⟨d, e, h1.dp s rx, h2.dp s ry, s1, s2, hk _ H _ G (.refl s) (by rw [Rep]) q⟩
/-- is None -/
def isND (neg : Bool) : R2D := fun x y G Q => match x, y with
  | .non, .non => Q (.bl (!neg)) G
  | _, .non => Q (.bl neg) G
  | _, _ => False
theorem rep_not_non {K : PySem.W.Frag} {H : Hp} {d : D} {v : V} (r : Rep K H d v) (h : d ≠ .non) : v ≠ .non := by
  intro e
  subst e
  cases d with
  | non => exact h rfl
  | bl _ => rw [rep_bl] at r; cases r
  | int _ => rw [rep_int] at r; cases r
  | str _ => rw [rep_str] at r; cases r
  | ref _ => rw [rep_ref] at r; cases r
  | ty _ => rw [rep_ty] at r; cases r
  | tup _ => rw [rep_tup] at r; obtain ⟨_, _, e, _⟩ := r; cases e
  | rol _ => rw [rep_rol] at r; obtain ⟨_, _, e, _⟩ := r; cases e
theorem o_is : OpD X (compareOp .Is) (isND false) := by
  refine ⟨_, op_isN, fun H G x y dx dy Q R s rx ry hr hk => ?_⟩
  unfold isND at hr
  split at hr
  · rw [rep_non] at rx ry
    subst rx; subst ry
    exact ⟨rfl, hk _ H _ G (.refl s) (by rw [Rep]; rfl) hr⟩
  · rename_i h
    rw [rep_non] at ry
    have n := rep_not_non rx (fun e => h (by rw [e]))
    exact ⟨ry, hk _ H _ G (.refl s) (by rw [Rep]; simp [n]) hr⟩
  · exact hr.elim
theorem o_isnot : OpD X (compareOp .IsNot) (isND true) := by
  refine ⟨_, op_notN, fun H G x y dx dy Q R s rx ry hr hk => ?_⟩
  unfold isND at hr
  split at hr
  · rw [rep_non] at rx ry
    subst rx; subst ry
    exact ⟨rfl, hk _ H _ G (.refl s) (by rw [Rep]; rfl) hr⟩
  · rename_i h
    rw [rep_non] at ry
    have n := rep_not_non rx (fun e => h (by rw [e]))
    exact ⟨ry, hk _ H _ G (.refl s) (by rw [Rep]; simp [n]) hr⟩
  · exact hr.elim
/-- -x -/
def dNeg (ta : ED) : ED := fun δ G Q => ta δ G fun x G1 => match x with | .int i => Q (.int (-i)) G1 | _ => False
theorem d_neg {ta : ED} (ha : PEd X H0 a ta) : PEd X H0 (.UnaryOp .USub a pos) (dNeg ta) :=
  PE.imp (pe_un un_neg ha) fun σ H R ⟨G, δ, Q, s, h, q⟩ => ⟨G, δ, _, s, h, fun x H1 dx G1 v1 r1 h1 => by
    revert h1
    split
    · rename_i i
      intro h1
      rw [rep_int] at r1
      exact ⟨i, r1, q _ H1 _ G1 v1 (by rw [Rep]) h1⟩
    · exact False.elim⟩

/-! ### in -/
def flatD : D → Bool
  | .non => true
  | .bl _ => true
  | .int _ => true
  | .str _ => true
  | _ => false
/-- == of flat things -/
def eqF : D → D → Bool
  | .non, .non => true
  | .bl a, .bl b => a == b
  | .bl a, .int b => (if a then 1 else 0) == b
  | .int a, .bl b => a == (if b then 1 else 0)
  | .int a, .int b => a == b
  | .str a, .str b => a == b
  | _, _ => false
theorem flat_rep {K : PySem.W.Frag} {H : Hp} {d : D} {v : V} (f : flatD d = true) (r : Rep K H d v) : flatV v = true ∧ ∀ d' v', flatD d' = true → Rep K H d' v' → eqV v v' = eqF d d' := by
  cases d with
  | non => rw [rep_non] at r; subst r; exact ⟨rfl, fun d' v' f' r' => by
      cases d' with
      | non => rw [rep_non] at r'; subst r'; rfl
      | bl _ => rw [rep_bl] at r'; subst r'; rfl
      | int _ => rw [rep_int] at r'; subst r'; rfl
      | str _ => rw [rep_str] at r'; subst r'; rfl
      | _ => cases f'⟩
  | bl _ => rw [rep_bl] at r; subst r; exact ⟨rfl, fun d' v' f' r' => by
      cases d' with
      | non => rw [rep_non] at r'; subst r'; rfl
      | bl _ => rw [rep_bl] at r'; subst r'; rfl
      | int _ => rw [rep_int] at r'; subst r'; rfl
      | str _ => rw [rep_str] at r'; subst r'; rfl
      | _ => cases f'⟩
  | int _ => rw [rep_int] at r; subst r; exact ⟨rfl, fun d' v' f' r' => by
      cases d' with
      | non => rw [rep_non] at r'; subst r'; rfl
      | bl _ => rw [rep_bl] at r'; subst r'; rfl
      | int _ => rw [rep_int] at r'; subst r'; rfl
      | str _ => rw [rep_str] at r'; subst r'; rfl
      | _ => cases f'⟩
  | str _ => rw [rep_str] at r; subst r; exact ⟨rfl, fun d' v' f' r' => by
      cases d' with
      | non => rw [rep_non] at r'; subst r'; rfl
      | bl _ => rw [rep_bl] at r'; subst r'; rfl
      | int _ => rw [rep_int] at r'; subst r'; rfl
      | str _ => rw [rep_str] at r'; subst r'; rfl
      | _ => cases f'⟩
  | _ => cases f
theorem flat_reps {K : PySem.W.Frag} {H : Hp} : ∀ {ds : List D} {vs : List V}, ds.all flatD = true → Reps K H ds vs → vs.all flatV = true ∧ ∀ d v, flatD d = true → Rep K H d v → inV v vs = ds.any fun y => eqF y d
  | [], vs, f, r => by rw [Reps] at r; subst r; exact ⟨rfl, fun _ _ _ _ => rfl⟩
  | d :: ds, vs, f, r => by
    rw [Reps] at r
    obtain ⟨v, r', rfl, r1, r2⟩ := r
    rw [List.all_cons, Bool.and_eq_true] at f
    obtain ⟨h1, h2⟩ := flat_rep f.1 r1
    obtain ⟨h3, h4⟩ := flat_reps f.2 r2
    refine ⟨by rw [List.all_cons, h1, h3]; rfl, fun d' v' f' r3 => ?_⟩
    have e := h4 d' v' f' r3
    unfold inV at e ⊢
    rw [List.any_cons, List.any_cons, e, h2 d' v' f' r3]
def inD (neg : Bool) : R2D := fun x y G Q => match x, y with
  | .str t, .str z => ∃ c, t = ⟨#[c]⟩ ∧ Q (.bl (neg ^^ decide (c ∈ z.cps.toList))) G
  | x, y => ∃ ds, SeqG G y ds ∧ flatD x = true ∧ ds.all flatD = true ∧ Q (.bl (neg ^^ ds.any fun z => eqF z x)) G
theorem o_in : OpD X (compareOp .In) (inD false) := by
  refine ⟨_, OpR.or op_in_sign op_in_seq, fun H G x y dx dy Q R s rx ry hr hk => ?_⟩
  unfold inD at hr
  split at hr
  · rename_i t z
    rw [rep_str] at rx ry
    obtain ⟨c, rfl, hr⟩ := hr
    exact .inl ⟨c, z, rx, ry, hk _ H _ G (.refl s) (by rw [Rep]; simp) hr⟩
  · obtain ⟨ds, sq, f1, f2, q⟩ := hr
    obtain ⟨a, xs, rfl, hs, rs⟩ := sq.get s ry
    obtain ⟨g1, g2⟩ := flat_reps f2 rs
    refine .inr ⟨a, xs, rfl, hs, (flat_rep f1 rx).1, g1, hk _ H _ G (.refl s) ?_ q⟩
    rw [rep_bl, g2 _ _ f1 rx]; simp
theorem o_notin : OpD X (compareOp .NotIn) (inD true) := by
  refine ⟨_, OpR.or op_notIn_sign op_notIn_seq, fun H G x y dx dy Q R s rx ry hr hk => ?_⟩
  unfold inD at hr
  split at hr
  · rename_i t z
    rw [rep_str] at rx ry
    obtain ⟨c, rfl, hr⟩ := hr
    exact .inl ⟨c, z, rx, ry, hk _ H _ G (.refl s) (by rw [Rep]; simp) hr⟩
  · obtain ⟨ds, sq, f1, f2, q⟩ := hr
    obtain ⟨a, xs, rfl, hs, rs⟩ := sq.get s ry
    obtain ⟨g1, g2⟩ := flat_reps f2 rs
    refine .inr ⟨a, xs, rfl, hs, (flat_rep f1 rx).1, g1, hk _ H _ G (.refl s) ?_ q⟩
    rw [rep_bl, g2 _ _ f1 rx]; simp
end
end Q
set_option maxHeartbeats 4000000
/-! QC: tests, displays, places, statements -/
namespace Q
open PySem PySem.Spec PyProof.Rows L2
section
variable {X : Cx} {H0 : Hp} {e a b c : Expr} {rest : List Expr} {pos : Pos} {ta tb tc : ED} {ua ub : TD}

/-! ### tests -/
def isB : D → (Bool → Prop) → Prop
  | .bl b, P => P b
  | _, _ => False
theorem isB_ex {x : D} {P : Bool → Prop} (h : isB x P) : ∃ b, x = .bl b ∧ P b := by
  unfold isB at h
  split at h
  · exact ⟨_, rfl, h⟩
  · exact h.elim
def dB (t : ED) : TD := fun δ G Q => t δ G fun d G1 => isB d fun b => Q b G1
theorem star_b {σ : L2.St} {H : Hp} {R : Bool → Hp → Prop} (h : starT X.K X.mg H0 (dB ta) σ H R) : tB (star X.K X.mg H0 ta) σ H R := by
  obtain ⟨G, δ, Q, s, h, q⟩ := h
  refine ⟨G, δ, _, s, h, fun v H' d G' v1 r1 h1 => ?_⟩
  obtain ⟨b, rfl, h1⟩ := isB_ex h1
  rw [rep_bl] at r1
  exact ⟨b, r1, q b H' G' v1 h1⟩
theorem d_tval (h : PEd X H0 e ta) (he : ∀ whole, isTrue e X.env whole = (do let v ← whole; standAt e.pos; holding [v] (truthy v)) := by intro _; rfl) : PTd X H0 e (dB ta) :=
  PT.imp (pt_val h he) fun σ H R q => star_b q
theorem d_tcmp {op : CmpOp} {rd : R2D} (ho : OpD X (compareOp op) rd) (ha : PEd X H0 a ta) (hb : PEd X H0 b tb) (hm : behindInMarks op b = false := by first | exact nomark _ | rfl) : PTd X H0 (.Compare a [op] [b] pos) (dB (dOp rd ta tb)) := by
  obtain ⟨r, h1, h2⟩ := ho
  exact PT.imp (pt_cmpR h1 ha hb hm) fun σ H R h => by
    obtain ⟨G, δ, Q, s, h, q⟩ := h
    refine star_bin h2 ⟨G, δ, _, s, h, fun v H' d G' v1 r1 h1 => ?_⟩
    obtain ⟨b, rfl, h1⟩ := isB_ex h1
    rw [rep_bl] at r1
    exact ⟨b, r1, q b H' G' v1 h1⟩
/-- truth of any value -/
def truD (x : D) (G : GH) (P : Bool → Prop) : Prop := match x with
  | .non => P false
  | .bl b => P b
  | .int i => P (i != 0)
  | .str y => y.length ≤ sizeLine ∧ P ((y.length : Int) != 0)
  | .tup ds => P (!ds.isEmpty)
  | .rol ds => P (!ds.isEmpty)
  | .ref a => match G a with
    | some (.lst ds) => P (!ds.isEmpty)
    | some (.dK kvs) => P (!kvs.isEmpty)
    | _ => False
  | .ty _ => False
def dTru (t : ED) : TD := fun δ G Q => t δ G fun d G1 => truD d G1 fun b => Q b G1
theorem isEmpty_reps {K : PySem.W.Frag} {H : Hp} {ds : List D} {vs : List V} (r : Reps K H ds vs) : ds.isEmpty = vs.isEmpty := by
  have := r.length
  cases ds <;> cases vs <;> simp_all
theorem truD_ok {K : PySem.W.Frag} {mg : Str → Option Value} {G : GH} {H : Hp} {d : D} {v : V} {P : Bool → Prop} (s : Sim K mg G H) (r : Rep K H d v) (h : truD d G P) : ∃ k, TruV K v H k ∧ P k := by
  cases d with
  | non => rw [rep_non] at r; subst r; exact ⟨_, rfl, h⟩
  | bl b => rw [rep_bl] at r; subst r; exact ⟨_, rfl, h⟩
  | int b => rw [rep_int] at r; subst r; exact ⟨_, rfl, h⟩
  | str b => rw [rep_str] at r; subst r; exact ⟨_, ⟨h.1, rfl⟩, h.2⟩
  | tup ds =>
    rw [rep_tup] at r
    obtain ⟨a, xs, rfl, q, r⟩ := r
    exact ⟨_, .inr (.inl ⟨xs, q, rfl⟩), by rw [← isEmpty_reps r]; exact h⟩
  | rol ds =>
    rw [rep_rol] at r
    obtain ⟨a, xs, rfl, q, r⟩ := r
    exact ⟨_, .inl ⟨xs, q.sq, rfl⟩, by rw [← isEmpty_reps r]; exact h⟩
  | ty _ => exact h.elim
  | ref a =>
    rw [rep_ref] at r
    subst r
    unfold truD at h
    simp only at h
    split at h
    · rename_i ds e
      obtain ⟨vs, q, r⟩ := s a _ e
      exact ⟨_, .inl ⟨vs, SqL.of q, rfl⟩, by rw [← isEmpty_reps r]; exact h⟩
    · rename_i kvs e
      obtain ⟨kws, q, r⟩ := s a _ e
      refine ⟨_, .inr (.inr ⟨kws, q, rfl⟩), ?_⟩
      have e2 : kvs.isEmpty = kws.isEmpty := by
        have := congrArg List.length r.1
        simp only [List.length_map] at this
        cases kvs <;> cases kws <;> simp_all
      rw [← e2]; exact h
    · exact h.elim
theorem d_ttru (h : PEd X H0 e ta) (he : ∀ whole, isTrue e X.env whole = (do let v ← whole; standAt e.pos; holding [v] (truthy v)) := by intro _; rfl) : PTd X H0 e (dTru ta) :=
  PT.imp (pt_truth h he) fun σ H R q => by
    obtain ⟨G, δ, Q, s, h, q⟩ := q
    refine ⟨G, δ, _, s, h, fun v H' d G' v1 r1 h1 => ?_⟩
    obtain ⟨k, t, p⟩ := truD_ok v1.sm r1 h1
    exact ⟨k, t, q k H' G' v1 p⟩
def dAnd (t u : TD) : TD := fun δ G Q => t δ G fun c G1 => if c = true then u δ G1 Q else Q false G1
def dOr (t u : TD) : TD := fun δ G Q => t δ G fun c G1 => if c = true then Q true G1 else u δ G1 Q
def dNot (t : TD) : TD := fun δ G Q => t δ G fun c G1 => Q (!c) G1
theorem d_and1 (ha : PTd X H0 a ua) : PWd X H0 (.BoolOp .And [a] pos) ua := pw_and1 ha
theorem d_or1 (ha : PTd X H0 a ua) : PWd X H0 (.BoolOp .Or [a] pos) ua := pw_or1 ha
theorem d_and (ha : PTd X H0 a ua) (hb : PWd X H0 (.BoolOp .And (b :: rest) pos) ub) : PWd X H0 (.BoolOp .And (a :: b :: rest) pos) (dAnd ua ub) :=
  PW.imp (pw_and ha hb) fun σ H R ⟨G, δ, Q, s, h, q⟩ => ⟨G, δ, _, s, h, fun k H1 G1 v1 h1 => by
    cases k with
    | true => exact ⟨G1, δ, Q, s.step v1, h1, fun k' H2 G2 v2 h2 => q k' H2 G2 (v1.trans v2) h2⟩
    | false => exact q false H1 G1 v1 h1⟩
theorem d_or (ha : PTd X H0 a ua) (hb : PWd X H0 (.BoolOp .Or (b :: rest) pos) ub) : PWd X H0 (.BoolOp .Or (a :: b :: rest) pos) (dOr ua ub) :=
  PW.imp (pw_or ha hb) fun σ H R ⟨G, δ, Q, s, h, q⟩ => ⟨G, δ, _, s, h, fun k H1 G1 v1 h1 => by
    cases k with
    | false => exact ⟨G1, δ, Q, s.step v1, h1, fun k' H2 G2 v2 h2 => q k' H2 G2 (v1.trans v2) h2⟩
    | true => exact q true H1 G1 v1 h1⟩
theorem PWd.t (h : PWd X H0 e ua) : PTd X H0 e ua := PW.pt h
theorem d_tnot (ha : PTd X H0 a ua) : PTd X H0 (.UnaryOp .Not a pos) (dNot ua) :=
  PT.imp (pt_not ha) fun σ H R ⟨G, δ, Q, s, h, q⟩ => ⟨G, δ, _, s, h, fun k H1 G1 v1 h1 => q (!k) H1 G1 v1 h1⟩
/-- as values -/
def dAndV (ta tb : ED) : ED := fun δ G Q => ta δ G fun x G1 => isB x fun c => if c = true then tb δ G1 Q else Q (.bl false) G1
def dOrV (ta tb : ED) : ED := fun δ G Q => ta δ G fun x G1 => isB x fun c => if c = true then Q (.bl true) G1 else tb δ G1 Q
def dNotV (ta : ED) : ED := fun δ G Q => ta δ G fun x G1 => isB x fun c => Q (.bl (!c)) G1
theorem d_one {op : BoolOp} (h : PEd X H0 a ta) : PEd X H0 (.BoolOp op [a] pos) ta := pe_one h
theorem d_andV (ha : PEd X H0 a ta) (hb : PEd X H0 (.BoolOp .And (b :: rest) pos) tb) : PEd X H0 (.BoolOp .And (a :: b :: rest) pos) (dAndV ta tb) :=
  PE.imp (pe_and ha hb) fun σ H R ⟨G, δ, Q, s, h, q⟩ => ⟨G, δ, _, s, h, fun v H1 d G1 v1 r1 h1 => by
    obtain ⟨k, rfl, h1⟩ := isB_ex h1
    rw [rep_bl] at r1
    refine ⟨k, r1, ?_⟩
    cases k with
    | true => exact ⟨G1, δ, Q, s.step v1, h1, fun w H2 e G2 v2 => q w H2 e G2 (v1.trans v2)⟩
    | false => exact q _ H1 _ G1 v1 (by rw [Rep]) h1⟩
theorem d_orV (ha : PEd X H0 a ta) (hb : PEd X H0 (.BoolOp .Or (b :: rest) pos) tb) : PEd X H0 (.BoolOp .Or (a :: b :: rest) pos) (dOrV ta tb) :=
  PE.imp (pe_or ha hb) fun σ H R ⟨G, δ, Q, s, h, q⟩ => ⟨G, δ, _, s, h, fun v H1 d G1 v1 r1 h1 => by
    obtain ⟨k, rfl, h1⟩ := isB_ex h1
    rw [rep_bl] at r1
    refine ⟨k, r1, ?_⟩
    cases k with
    | false => exact ⟨G1, δ, Q, s.step v1, h1, fun w H2 e G2 v2 => q w H2 e G2 (v1.trans v2)⟩
    | true => exact q _ H1 _ G1 v1 (by rw [Rep]) h1⟩
theorem d_notV (ha : PEd X H0 a ta) : PEd X H0 (.UnaryOp .Not a pos) (dNotV ta) :=
  PE.imp (pe_not ha) fun σ H R ⟨G, δ, Q, s, h, q⟩ => ⟨G, δ, _, s, h, fun v H1 d G1 v1 r1 h1 => by
    obtain ⟨k, rfl, h1⟩ := isB_ex h1
    rw [rep_bl] at r1
    exact ⟨k, r1, q _ H1 _ G1 v1 (by rw [Rep]) h1⟩⟩
def dIf (t : TD) (ta tb : ED) : ED := fun δ G Q => t δ G fun c G1 => if c = true then ta δ G1 Q else tb δ G1 Q
theorem d_ifExp (hc : PTd X H0 c ua) (ha : PEd X H0 a ta) (hb : PEd X H0 b tb) : PEd X H0 (.IfExp c a b pos) (dIf ua ta tb) :=
  PE.imp (pe_ifExp hc ha hb) fun σ H R ⟨G, δ, Q, s, h, q⟩ => ⟨G, δ, _, s, h, fun k H1 G1 v1 h1 => by
    cases k with
    | true => exact ⟨G1, δ, Q, s.step v1, h1, fun w H2 e G2 v2 => q w H2 e G2 (v1.trans v2)⟩
    | false => exact ⟨G1, δ, Q, s.step v1, h1, fun w H2 e G2 v2 => q w H2 e G2 (v1.trans v2)⟩⟩
/-- a < b < c -/
def dChain (r r' : R2D) (ta tb tc : ED) : ED := fun δ G Q => ta δ G fun x G1 => tb δ G1 fun y G2 => r x y G2 fun z G3 => isB z fun k => if k = true then tc δ G3 fun w G4 => r' y w G4 Q else Q (.bl false) G3
theorem star_chain {r r' : R2} {rd rd' : R2D} {σ : L2.St} {H : Hp} {R : VK}
    (h2 : ∀ H G x y dx dy Q R, Sim X.K X.mg G H → Rep X.K H dx x → Rep X.K H dy y → rd dx dy G Q → (∀ v H' d G', VOk X.K X.mg H H' G' → Rep X.K H' d v → Q d G' → R v H') → r x y H R)
    (h2' : ∀ H G x y dx dy Q R, Sim X.K X.mg G H → Rep X.K H dx x → Rep X.K H dy y → rd' dx dy G Q → (∀ v H' d G', VOk X.K X.mg H H' G' → Rep X.K H' d v → Q d G' → R v H') → r' x y H R)
    (h : star X.K X.mg H0 (dChain rd rd' ta tb tc) σ H R) : tChain r r' (star X.K X.mg H0 ta) (star X.K X.mg H0 tb) (star X.K X.mg H0 tc) σ H R := by
  obtain ⟨G, δ, Q, s, h, q⟩ := h
  refine ⟨G, δ, _, s, h, fun x H1 dx G1 v1 r1 h1 => ⟨G1, δ, _, s.step v1, h1, fun y H2 dy G2 v2 ry h3 => ?_⟩⟩
  refine h2 H2 G2 x y dx dy _ _ v2.sm (Rep.keep v2.kp _ _ r1) ry h3 fun z H3 dz G3 v3 rz h4 => ?_
  obtain ⟨k, rfl, h4⟩ := isB_ex h4
  rw [rep_bl] at rz
  refine ⟨k, rz, ?_⟩
  cases k with
  | true =>
    refine ⟨G3, δ, _, (s.step v1).step (v2.trans v3), h4, fun w' H4 dw G4 v4 rw' h5 => ?_⟩
    exact h2' H4 G4 y w' dy dw _ _ v4.sm (Rep.keep (v3.kp.trans v4.kp) _ _ ry) rw' h5 fun v H' d G' v5 => q v H' d G' (((v1.trans v2).trans (v3.trans v4)).trans v5)
  | false => exact q _ H3 _ G3 ((v1.trans v2).trans v3) (by rw [Rep]) h4
theorem d_chain {op op' : CmpOp} {rd rd' : R2D} (ho : OpD X (compareOp op) rd) (ho' : OpD X (compareOp op') rd') (ha : PEd X H0 a ta) (hb : PEd X H0 b tb) (hc : PEd X H0 c tc)
    (hm : lastMarks [op, op'] [b, c] = false := by with_unfolding_all rfl) : PEd X H0 (.Compare a [op, op'] [b, c] pos) (dChain rd rd' ta tb tc) := by
  obtain ⟨r, h1, h2⟩ := ho
  obtain ⟨r', h1', h2'⟩ := ho'
  exact PE.imp (pe_chain h1 h1' ha hb hc hm) fun σ H R h => star_chain h2 h2' h
theorem d_tchain {op op' : CmpOp} {rd rd' : R2D} (ho : OpD X (compareOp op) rd) (ho' : OpD X (compareOp op') rd') (ha : PEd X H0 a ta) (hb : PEd X H0 b tb) (hc : PEd X H0 c tc)
    (hm : lastMarks [op, op'] [b, c] = false := by with_unfolding_all rfl) : PTd X H0 (.Compare a [op, op'] [b, c] pos) (dB (dChain rd rd' ta tb tc)) := by
  obtain ⟨r, h1, h2⟩ := ho
  obtain ⟨r', h1', h2'⟩ := ho'
  exact PT.imp (pt_chain h1 h1' ha hb hc hm) fun σ H R h => by
    obtain ⟨G, δ, Q, s, h, q⟩ := h
    refine star_chain h2 h2' ⟨G, δ, _, s, h, fun v H' d G' v1 r1 h1 => ?_⟩
    obtain ⟨b, rfl, h1⟩ := isB_ex h1
    rw [rep_bl] at r1
    exact ⟨b, r1, q b H' G' v1 h1⟩
/-- x or y by truth -/
def dOrT (ta tb : ED) : ED := fun δ G Q => ta δ G fun x G1 => truD x G1 fun c => if c = true then Q x G1 else tb δ G1 Q

/-! ### argument lists, tuples, lists -/
def dNil : AD := fun _ G Q => Q [] G
def dCons (ta : ED) (tr : AD) : AD := fun δ G Q => ta δ G fun x G1 => tr δ G1 fun xs G2 => Q (x :: xs) G2
theorem a_nil : PAd X H0 [] dNil := PA.imp pa_nil fun σ H R ⟨G, δ, Q, s, h, q⟩ => q [] H [] G s.vok .nil h
theorem a_cons {es : List Expr} {t : AD} (ha : PEd X H0 e ta) (hr : PAd X H0 es t) (hs : starEach (e :: es) X.env = (false, eval e X.env) :: starEach es X.env := by rfl) : PAd X H0 (e :: es) (dCons ta t) :=
  PA.imp (pa_cons ha hr hs) fun σ H R ⟨G, δ, Q, s, h, q⟩ => ⟨G, δ, _, s, h, fun v H1 d G1 v1 r1 h1 => ⟨G1, δ, _, s.step v1, h1, fun vs H2 ds G2 v2 r2 h2 => q _ H2 _ G2 (v1.trans v2) (.cons (Rep.keep v2.kp _ _ r1) r2) h2⟩⟩
def dTup (t : AD) : ED := fun δ G Q => t δ G fun xs G1 => xs.length ≤ sizeLine ∧ Q (.tup xs) G1
def dLst (t : AD) : ED := fun δ G Q => t δ G fun xs G1 => xs.length ≤ sizeLine ∧ ∀ p, G1 p = none → Q (.ref p) (gupd G1 p (.lst xs))
theorem d_tup {es : List Expr} {t : AD} {x1} (h : PAd X H0 es t) : PEd X H0 (.Tuple es x1 pos) (dTup t) :=
  PE.imp (pe_tup h) fun σ H R ⟨G, δ, Q, s, h, q⟩ => ⟨G, δ, _, s, h, fun vs H1 ds G1 v1 r1 h1 => ⟨by rw [r1.length]; exact h1.1, fun p hp =>
    q _ _ _ G1 ⟨v1.kp.trans (.new hp), v1.sm.skip hp⟩ (by rw [rep_tup]; exact ⟨p, _, rfl, SqT.of upd_same, Reps.keep (.new hp) _ _ r1⟩) h1.2⟩⟩
theorem d_lst {es : List Expr} {t : AD} (h : PAd X H0 es t) : PEd X H0 (.List es pos) (dLst t) :=
  PE.imp (pe_lst h) fun σ H R ⟨G, δ, Q, s, h, q⟩ => ⟨G, δ, _, s, h, fun vs H1 ds G1 v1 r1 h1 => ⟨by rw [r1.length]; exact h1.1, fun p hp =>
    q _ _ _ _ ⟨v1.kp.trans (.new hp), v1.sm.new (o := .lst ds) hp ⟨_, upd_same, Reps.keep (.new hp) _ _ r1⟩⟩ (by rw [Rep]) (h1.2 p (v1.sm.free hp))⟩⟩

/-! ### places -/
/-- a[i] of a list, a tuple, a text -/
def ixD : R2D := fun x y G Q => match x, y with
  | .str z, .int i => z.length ≤ sizeLine ∧ ∃ c, atI z.cps.toList i = some c ∧ Q (.str ⟨#[c]⟩) G
  | x, .int i => ∃ ds d, SeqG G x ds ∧ atI ds i = some d ∧ Q d G
  | _, _ => False
theorem atI_reps {K : PySem.W.Frag} {H : Hp} {ds : List D} {vs : List V} {i : Int} {d : D} (r : Reps K H ds vs) (h : atI ds i = some d) : ∃ v, atI vs i = some v ∧ Rep K H d v := by
  unfold atI at h ⊢
  rw [r.length]
  cases e : ixN ds.length i with
  | none => rw [e] at h; cases h
  | some j =>
    rw [e] at h
    exact r.get' h
theorem d_ix (ha : PEd X H0 a ta) (hb : PEd X H0 b tb) (hs : PlainIx b := by intro _ _; rfl) : PEd X H0 (.Subscript a b pos) (dOp ixD ta tb) :=
  PE.imp (pe_ix ix_seq ha hb hs) fun σ H R h => star_bin (rd := ixD) (fun H G x y dx dy Q R s rx ry hr hk => by
    unfold ixD at hr
    split at hr
    · rename_i z i
      rw [rep_str] at rx; rw [rep_int] at ry
      obtain ⟨hz, c, e, q⟩ := hr
      exact .inr (.inr ⟨z, i, c, rx, ry, hz, e, hk _ H _ G (.refl s) (by rw [Rep]) q⟩)
    · rename_i i _
      obtain ⟨ds, d, sq, e, q⟩ := hr
      rw [rep_int] at ry
      obtain ⟨p, xs, rfl, hs, r⟩ := sq.get s rx
      obtain ⟨v, e', rv⟩ := atI_reps r e
      rcases hs with hs | hs
      · exact .inl ⟨p, xs, i, v, rfl, ry, hs, e', hk _ H _ G (.refl s) rv q⟩
      · exact .inr (.inl ⟨p, xs, i, v, rfl, ry, hs, e', hk _ H _ G (.refl s) rv q⟩)
    · exact hr.elim) h
/-- a[lo:hi] -/
abbrev OD := SD → GH → (Option Int → GH → Prop) → Prop
def starO (K : PySem.W.Frag) (mg : Str → Option Value) (H0 : Hp) (t : OD) : TO := fun σ H R => ∃ G δ Q, StOk K mg H0 H σ δ G ∧ t δ G Q ∧ ∀ v H' G', VOk K mg H H' G' → Q v G' → R v H'
def POd (X : Cx) (H0 : Hp) (e : Option Expr) (t : OD) : Prop := PO X e (starO X.K X.mg H0 t)
def dNoPart : OD := fun _ G Q => Q none G
def dPart (t : ED) : OD := fun δ G Q => t δ G fun x G1 => match x with | .int i => Q (some i) G1 | _ => False
theorem PO.imp {e : Option Expr} {te te' : TO} (h : PO X e te) (k : ∀ σ H R, te' σ H R → te σ H R) : PO X e te' := ⟨fun pins s σ H Q I q => h.run pins s σ H Q I (k σ H Q q)⟩
theorem o_none : POd X H0 none dNoPart := PO.imp po_none fun σ H R ⟨G, δ, Q, s, h, q⟩ => q none H G s.vok h
theorem o_some (h : PEd X H0 e ta) : POd X H0 (some e) (dPart ta) := PO.imp (po_some h) fun σ H R ⟨G, δ, Q, s, h, q⟩ => ⟨G, δ, _, s, h, fun v H1 d G1 v1 r1 h1 => by
  revert h1
  split
  · rename_i i
    intro h1
    rw [rep_int] at r1
    exact ⟨i, r1, q _ H1 G1 v1 h1⟩
  · exact False.elim⟩
def cutD (xs : List D) (lo hi : Option Int) : List D := (xs.drop (HT.sIx xs.length 0 lo)).take (HT.sIx xs.length xs.length hi - HT.sIx xs.length 0 lo)
theorem cut_reps {K : PySem.W.Frag} {H : Hp} {ds : List D} {vs : List V} (r : Reps K H ds vs) (lo hi : Option Int) : Reps K H (cutD ds lo hi) (cutV vs lo hi) := by
  unfold cutD cutV
  rw [r.length]
  exact (r.drop _).take _
def slD (x : D) (lo hi : Option Int) (G : GH) (Q : QK) : Prop := match x with
  | .str z => z.length ≤ sizeLine ∧ Q (.str (cutS z lo hi)) G
  | .tup ds => Q (.tup (cutD ds lo hi)) G
  | .rol ds => ∀ p, G p = none → Q (.ref p) (gupd G p (.lst (cutD ds lo hi)))
  | .ref a => ∃ ds, G a = some (.lst ds) ∧ ∀ p, G p = none → Q (.ref p) (gupd G p (.lst (cutD ds lo hi)))
  | _ => False
def dSl (ta : ED) (tl th : OD) : ED := fun δ G Q => ta δ G fun x G1 => tl δ G1 fun l G2 => th δ G2 fun u G3 => slD x l u G3 Q
theorem d_slice {lo hi : Option Expr} {tl th : OD} {p2 : Pos} (ha : PEd X H0 a ta) (hl : POd X H0 lo tl) (hh : POd X H0 hi th) : PEd X H0 (.Subscript a (.Slice lo hi none p2) pos) (dSl ta tl th) :=
  PE.imp (pe_slice (SlR.or sl_str (SlR.or sl_tupA sl_list)) ha hl hh) fun σ H R ⟨G, δ, Q, s, h, q⟩ => ⟨G, δ, _, s, h, fun x H1 dx G1 v1 rx h1 => ⟨G1, δ, _, s.step v1, h1, fun l H2 G2 v2 h2 => ⟨G2, δ, _, (s.step v1).step v2, h2, fun u H3 G3 v3 h3 => by
    replace rx := Rep.keep (v2.kp.trans v3.kp) _ _ rx
    have vv := (v1.trans v2).trans v3
    unfold slD at h3
    split at h3
    · rename_i z
      rw [rep_str] at rx
      exact .inl ⟨z, rx, h3.1, q _ H3 _ G3 vv (by rw [Rep]) h3.2⟩
    · rename_i ds
      rw [rep_tup] at rx
      obtain ⟨p, xs, rfl, hs, r⟩ := rx
      refine .inr (.inl ⟨p, xs, rfl, hs, fun hw => ?_, fun hw p' hp => ?_⟩)
      · refine q _ H3 _ G3 vv ?_ h3
        rw [rep_tup]
        refine ⟨p, xs, rfl, hs, ?_⟩
        have e : cutD ds l u = ds := by
          unfold cutD
          rw [r.length] at hw
          rw [hw.1, hw.2]; simp
        rw [e]; exact r
      · refine q _ _ _ G3 ⟨vv.kp.trans (.new hp), vv.sm.skip hp⟩ ?_ h3
        rw [rep_tup]
        exact ⟨p', _, rfl, SqT.of upd_same, cut_reps (Reps.keep (.new hp) _ _ r) _ _⟩
    · rename_i ds
      rw [rep_rol] at rx
      obtain ⟨p, xs, rfl, hs, r⟩ := rx
      refine .inr (.inr ⟨p, xs, rfl, hs.sq, fun p' hp => ?_⟩)
      exact q _ _ _ _ ⟨vv.kp.trans (.new hp), vv.sm.new (o := .lst (cutD ds l u)) hp ⟨_, upd_same, cut_reps (Reps.keep (.new hp) _ _ r) _ _⟩⟩ (by rw [Rep]) (h3 p' (vv.sm.free hp))
    · rename_i p
      rw [rep_ref] at rx
      obtain ⟨ds, e, h3⟩ := h3
      obtain ⟨vs, e', r⟩ := vv.sm p _ e
      refine .inr (.inr ⟨p, vs, rx, SqL.of e', fun p' hp => ?_⟩)
      exact q _ _ _ _ ⟨vv.kp.trans (.new hp), vv.sm.new (o := .lst (cutD ds l u)) hp ⟨_, upd_same, cut_reps (Reps.keep (.new hp) _ _ r) _ _⟩⟩ (by rw [Rep]) (h3 p' (vv.sm.free hp))
    · exact h3.elim⟩⟩⟩
end
end Q
set_option maxHeartbeats 4000000
/-! QD: statements, targets, while, for, comprehensions -/
namespace Q
open PySem PySem.Spec PyProof.Rows L2
section
variable {X : Cx} {H0 : Hp} {e a b c o i tg : Expr} {st : Stmt} {sts body : List Stmt} {rest : List Expr} {pos : Pos} {ta tb tc ti : ED} {ua ub : TD} {t u : BD}

def dNext : BD := fun E δ G => E.nx δ G
def dSeq (t u : BD) : BD := fun E δ G => t { E with nx := u E } δ G
theorem EndOk.mk_nx {K : PySem.W.Frag} {mg : Str → Option Value} {H : Hp} {E : EndD} {Dn : Ends} {n : SD → GH → Prop} {m : L2.St → Hp → Prop} (k : EndOk K mg H0 H E Dn)
    (h : ∀ σ' H' δ' G', Keep H H' → StOk K mg H0 H' σ' δ' G' → n δ' G' → m σ' H') : EndOk K mg H0 H { E with nx := n } { Dn with nx := m } := ⟨h, k.rt, k.bk, k.ct⟩
theorem s_nil : PSsd X H0 [] dNext := PSs.imp pss_nil fun Dn σ H ⟨G, δ, E, s, h, k⟩ => k.nx σ H δ G (.refl _) s h
theorem s_cons (h1 : PSd X H0 st t) (h2 : PSsd X H0 sts u) : PSsd X H0 (st :: sts) (dSeq t u) := PSs.imp (pss_cons h1 h2) fun Dn σ H ⟨G, δ, E, s, h, k⟩ =>
  ⟨G, δ, _, s, h, k.mk_nx fun σ' H' δ' G' kp s' hu => ⟨G', δ', E, s', hu, k.step kp⟩⟩
theorem s_one (h1 : PSd X H0 st t) : PSsd X H0 [st] t := pss_one h1
theorem s_pass : PSd X H0 (.Pass pos) dNext := PS.imp ps_pass fun Dn σ H ⟨G, δ, E, s, h, k⟩ => k.nx σ H δ G (.refl _) s h
def dBreak : BD := fun E δ G => E.bk δ G
def dCont : BD := fun E δ G => E.ct δ G
theorem s_break : PSd X H0 (.Break pos) dBreak := PS.imp ps_break fun Dn σ H ⟨G, δ, E, s, h, k⟩ => k.bk σ H δ G (.refl _) s h
theorem s_continue : PSd X H0 (.Continue pos) dCont := PS.imp ps_continue fun Dn σ H ⟨G, δ, E, s, h, k⟩ => k.ct σ H δ G (.refl _) s h
def dDrop (ta : ED) : BD := fun E δ G => ta δ G fun _ G1 => E.nx δ G1
theorem s_expr (he : PEd X H0 e ta) (hs : swapsWith e none pos.line X.env = pure false := by rfl) : PSd X H0 (.Expr e pos) (dDrop ta) := PS.imp (ps_expr he hs) fun Dn σ H ⟨G, δ, E, s, h, k⟩ =>
  ⟨G, δ, _, s, h, fun v H1 d G1 v1 r1 h1 => k.nx σ H1 δ G1 v1.kp (s.step v1) h1⟩
def dRet (ta : ED) : BD := fun E δ G => ta δ G E.rt
theorem s_ret (he : PEd X H0 e ta) : PSd X H0 (.Return (some e) pos) (dRet ta) := PS.imp (ps_ret he) fun Dn σ H ⟨G, δ, E, s, h, k⟩ =>
  ⟨G, δ, _, s, h, fun v H1 d G1 v1 r1 h1 => k.rt v H1 d G1 v1 r1 h1⟩
def dRetN : BD := fun E _ G => E.rt .non G
theorem s_retN : PSd X H0 (.Return none pos) dRetN := PS.imp ps_retN fun Dn σ H ⟨G, δ, E, s, h, k⟩ => k.rt .non H .non G s.vok (by rw [Rep]) h
def dIfS (c : TD) (t u : BD) : BD := fun E δ G => c δ G fun b G1 => if b = true then t E δ G1 else u E δ G1
theorem s_if {sa sb : List Stmt} (hc : PTd X H0 c ua) (ha : PSsd X H0 sa t) (hb : PSsd X H0 sb u) : PSd X H0 (.If c sa sb pos) (dIfS ua t u) := PS.imp (ps_if hc ha hb) fun Dn σ H ⟨G, δ, E, s, h, k⟩ =>
  ⟨G, δ, _, s, h, fun v H1 G1 v1 h1 => by
    cases v with
    | true => exact ⟨G1, δ, E, s.step v1, h1, k.step v1.kp⟩
    | false => exact ⟨G1, δ, E, s.step v1, h1, k.step v1.kp⟩⟩

/-! ### targets -/
abbrev GD := D → SD → GH → (SD → GH → Prop) → Prop
abbrev GDs := List D → SD → GH → (SD → GH → Prop) → Prop
def starG (K : PySem.W.Frag) (mg : Str → Option Value) (H0 : Hp) (t : GD) : TG := fun v σ H R => ∃ d G δ Q, StOk K mg H0 H σ δ G ∧ Rep K H d v ∧ t d δ G Q ∧ ∀ σ' H' δ' G', Keep H H' → StOk K mg H0 H' σ' δ' G' → Q δ' G' → R σ' H'
def starGs (K : PySem.W.Frag) (mg : Str → Option Value) (H0 : Hp) (t : GDs) : TGs := fun vs σ H R => ∃ ds G δ Q, StOk K mg H0 H σ δ G ∧ Reps K H ds vs ∧ t ds δ G Q ∧ ∀ σ' H' δ' G', Keep H H' → StOk K mg H0 H' σ' δ' G' → Q δ' G' → R σ' H'
def PGd (X : Cx) (H0 : Hp) (e : Expr) (t : GD) : Prop := PG X e (starG X.K X.mg H0 t)
def PGsd (X : Cx) (H0 : Hp) (es : List Expr) (t : GDs) : Prop := PGs X es (starGs X.K X.mg H0 t)
theorem PG.imp {te te' : TG} (h : PG X e te) (k : ∀ v σ H R, te' v σ H R → te v σ H R) : PG X e te' := ⟨fun pins s σ H v u Q I r q => h.run pins s σ H v u Q I r (k v σ H Q q)⟩
theorem PGs.imp {es : List Expr} {te te' : TGs} (h : PGs X es te) (k : ∀ v σ H R, te' v σ H R → te v σ H R) : PGs X es te' := ⟨fun pins s σ H v u Q I r q => h.run pins s σ H v u Q I r (k v σ H Q q)⟩
def gdName (i : Nat) : GD := fun d δ G Q => Q (δ.set i (some d)) G
theorem StOk.set {K : PySem.W.Frag} {mg : Str → Option Value} {H : Hp} {σ : L2.St} {δ : SD} {G : GH} {i : Nat} {d : D} {v : V} (s : StOk K mg H0 H σ δ G) (r : Rep K H d v) : StOk K mg H0 H (σ.set i (some v)) (δ.set i (some d)) G := ⟨s.kp, s.sl.set r, s.sm⟩
theorem g_name {i : Nat} {x : Str} (hN : X.N.Nodup) (hi : X.N[i]? = some x := by rfl) (hx : Loc X.env.scope x := by first | exact Or.inl rfl | exact Or.inr rfl) (hf : X.fn x = true ∨ X.env.scope.names.lookup x = some .local := by first | exact .inl rfl | exact .inr rfl | assumption) : PGd X H0 (.Name x pos) (gdName i) :=
  PG.imp (pg_name hN hi hx hf) fun v σ H R ⟨d, G, δ, Q, s, r, h, q⟩ => q _ H _ G (.refl _) (s.set r) h
def gdNil : GDs := fun ds δ G Q => match ds with | [] => Q δ G | _ => False
def gdCons (t : GD) (u : GDs) : GDs := fun ds δ G Q => match ds with | d :: r => t d δ G fun δ' G' => u r δ' G' Q | [] => False
theorem gs_nil : PGsd X H0 [] gdNil := PGs.imp pgs_nil fun vs σ H R ⟨ds, G, δ, Q, s, r, h, q⟩ => by
  cases ds with
  | nil => rw [Reps] at r; exact ⟨r, q σ H δ G (.refl _) s h⟩
  | cons _ _ => exact h.elim
theorem gs_cons {es : List Expr} {t : GD} {u : GDs} (h1 : PGd X H0 e t) (h2 : PGsd X H0 es u) (hs : (assignEach (e :: es) X.env).map (·.2) = assign e X.env :: (assignEach es X.env).map (·.2) := by rfl) : PGsd X H0 (e :: es) (gdCons t u) :=
  PGs.imp (pgs_cons h1 h2 hs) fun vs σ H R ⟨ds, G, δ, Q, s, r, h, q⟩ => by
    cases ds with
    | nil => exact h.elim
    | cons d ds =>
      rw [Reps] at r
      obtain ⟨v, r', rfl, r1, r2⟩ := r
      refine ⟨v, r', rfl, d, G, δ, _, s, r1, h, fun σ' H' δ' G' kp s' h' => ?_⟩
      exact ⟨ds, G', δ', _, s', Reps.keep kp _ _ r2, h', fun σ2 H2 δ2 G2 kp2 s2 h2 => q σ2 H2 δ2 G2 (kp.trans kp2) s2 h2⟩
def gdTup (n : Nat) (t : GDs) : GD := fun d δ G Q => match d with | .tup ds => ds.length = n ∧ t ds δ G Q | _ => False
theorem g_tup {es : List Expr} {k : Nat} {t : GDs} {n : Nat} (hc : X.calm = true) (h : PGsd X H0 es t) (hn : (assignEach es X.env).length = n := by rfl) (hst : (assignEach es X.env).findIdx? (·.1) = none := by rfl) : PGd X H0 (.Tuple es k pos) (gdTup n t) :=
  PG.imp (pg_tup hc h hn hst) fun v σ H R ⟨d, G, δ, Q, s, r, h, q⟩ => by
    cases d with
    | tup ds =>
      rw [rep_tup] at r
      obtain ⟨p, xs, e, hs, r⟩ := r
      exact ⟨p, xs, e, hs, by rw [r.length]; exact h.1, ds, G, δ, Q, s, r, h.2, q⟩
    | _ => exact h.elim
/-- o[i] = v of a list -/
def gdSub (to ti : ED) : GD := fun d δ G Q => to δ G fun o G1 => ti δ G1 fun i G2 => ∃ p k ds j, o = .ref p ∧ i = .int k ∧ G2 p = some (.lst ds) ∧ ixN ds.length k = some j ∧ Q δ (gupd G2 p (.lst (ds.set j d)))
theorem g_sub (ho : PEd X H0 o ta) (hi : PEd X H0 i ti)
    (ha : ∀ v, assign (.Subscript o i pos) X.env v = (do
      let ov ← holding [v] (eval o X.env)
      let iv ← holding [v, ov] (eval i X.env)
      standAt pos
      holding [v, ov, iv] (setItem ov iv v)
      release [v, ov, iv] []) := by intro _; rfl) : PGd X H0 (.Subscript o i pos) (gdSub ta ti) :=
  PG.imp (pg_sub ho hi set_list ha) fun v σ H R ⟨d, G, δ, Q, s, r, h, q⟩ => ⟨G, δ, _, s, h, fun x H1 dx G1 v1 rx h1 => ⟨G1, δ, _, s.step v1, h1, fun y H2 dy G2 v2 ry h2 => by
    obtain ⟨p, k, ds, j, rfl, rfl, e, hj, h2⟩ := h2
    replace rx := Rep.keep v2.kp _ _ rx
    rw [rep_ref] at rx
    rw [rep_int] at ry
    obtain ⟨vs, e', rs⟩ := v2.sm p _ e
    have kp := (v1.trans v2).kp
    have kp3 : Keep H2 (upd H2 p (.lst (vs.set j v))) := .put e' (fun _ z => by cases z) (fun _ _ z => by cases z)
    refine ⟨p, vs, k, j, rx, ry, e', by rw [rs.length]; exact hj, q _ _ _ _ (kp.trans kp3) ((s.step (v1.trans v2)).step ⟨kp3, v2.sm.put (o := .lst (ds.set j d)) kp3 ⟨_, upd_same, ?_⟩⟩) h2⟩
    exact Reps.set (Rep.keep (kp.trans kp3) _ _ r) _ (Reps.keep kp3 _ _ rs)⟩⟩
/-- target = value -/
def dAsg (ta : ED) (g : GD) : BD := fun E δ G => ta δ G fun x G1 => g x δ G1 E.nx
theorem s_asg {g : GD} (he : PEd X H0 e ta) (hg : PGd X H0 tg g) (hs : swapsWithSole [tg] e pos.line X.env = pure false := by rfl) (hw : swappedStores [tg] e X.env = pure none := by rfl)
    (h1 : (assignEach [tg] X.env).map (·.2) = [assign tg X.env] := by rfl) : PSd X H0 (.Assign [tg] e pos) (dAsg ta g) := PS.imp (ps_asg he hg hs hw h1) fun Dn σ H ⟨G, δ, E, s, h, k⟩ =>
  ⟨G, δ, _, s, h, fun v H1 d G1 v1 r1 h1 => ⟨d, G1, δ, _, s.step v1, r1, h1, fun σ' H' δ' G' kp s' h' => k.nx σ' H' δ' G' (v1.kp.trans kp) s' h'⟩⟩
theorem s_set (i : Nat) {x : Str} {pos' : Pos} (hN : X.N.Nodup) (he : PEd X H0 e ta) (hi : X.N[i]? = some x := by rfl) (hx : Loc X.env.scope x := by first | exact Or.inl rfl | exact Or.inr rfl) (hs : swapsWith e (some (.Name x pos')) pos.line X.env = pure false := by rfl) (hf : X.fn x = true ∨ X.env.scope.names.lookup x = some .local := by first | exact .inl rfl | exact .inr rfl | assumption) :
    PSd X H0 (.Assign [.Name x pos'] e pos) (dAsg ta (gdName i)) := PS.imp (ps_set (i := i) hN hi hx he hs hf) fun Dn σ H ⟨G, δ, E, s, h, k⟩ =>
  ⟨G, δ, _, s, h, fun v H1 d G1 v1 r1 h1 => k.nx _ H1 _ G1 v1.kp ((s.step v1).set r1) h1⟩
/-- a, b = x, y: two local names -/
def dPar (i j : Nat) (ta : AD) : BD := fun E δ G => ta δ G fun vs G1 => match vs with | [v, w] => E.nx ((δ.set i (some v)).set j (some w)) G1 | _ => False
theorem s_par {i j : Nat} {x y : Str} {a b : Expr} {ta : AD} {px py pt : Pos} {kt k2 pt2} (hc : X.calm = true) (hN : X.N.Nodup) (ha : PAd X H0 [a, b] ta) (hi : X.N[i]? = some x := by rfl) (hj : X.N[j]? = some y := by rfl) (hij : i ≠ j := by decide)
    (hx : X.env.scope.names.lookup x = some .local := by rfl) (hy : X.env.scope.names.lookup y = some .local := by rfl)
    (hw : swappedStores [.Tuple [.Name x px, .Name y py] kt pt] (.Tuple [a, b] k2 pt2) X.env = pure (some [x, y]) := by rfl)
    (hs : swapsWithSole [.Tuple [.Name x px, .Name y py] kt pt] (.Tuple [a, b] k2 pt2) pos.line X.env = pure false := by rfl) :
    PSd X H0 (.Assign [.Tuple [.Name x px, .Name y py] kt pt] (.Tuple [a, b] k2 pt2) pos) (dPar i j ta) := PS.imp (ps_par hc hN hi hj hij hx hy ha hw hs) fun Dn σ H ⟨G, δ, E, s, h, k⟩ =>
  ⟨G, δ, _, s, h, fun vs H1 ds G1 v1 r1 h1 => by
    revert h1
    split
    · rename_i v w
      intro h1
      rw [Reps] at r1
      obtain ⟨v', r', rfl, r1, r2⟩ := r1
      rw [Reps] at r2
      obtain ⟨w', r'', rfl, r2, r3⟩ := r2
      rw [Reps] at r3
      subst r3
      exact ⟨v', w', rfl, k.nx _ H1 _ G1 v1.kp (((s.step v1).set r1).set r2) h1⟩
    · exact False.elim⟩

/-! ### while -/
def dWhile (c : TD) (tb : BD) : BD := fun E δ G => ∃ W : Nat → SD → GH → Prop, (∃ m, W m δ G) ∧ ∀ m δ G, W m δ G →
  c δ G fun b G1 => if b = true then tb { E with nx := fun δ' G' => ∃ m', m' < m ∧ W m' δ' G', ct := fun δ' G' => ∃ m', m' < m ∧ W m' δ' G', bk := E.nx } δ G1 else E.nx δ G1
theorem s_while (hp : PassesOwn (model X.prog X.w) X.A X.env X.xe) (hc : PTd X H0 c ua) (hb : PSsd X H0 body t) : PSd X H0 (.While c body [] pos) (dWhile ua t) := PS.imp (ps_while hp hc hb) fun Dn σ H ⟨G, δ, E, s, ⟨W, ⟨m, w⟩, turn⟩, k⟩ => by
  refine ⟨fun m σ1 H1 => ∃ δ1 G1, W m δ1 G1 ∧ StOk X.K X.mg H0 H1 σ1 δ1 G1 ∧ Keep H H1, ⟨m, δ, G, w, s, .refl _⟩, ?_⟩
  rintro m σ1 H1 ⟨δ1, G1, w1, s1, kp1⟩
  refine ⟨G1, δ1, _, s1, turn m δ1 G1 w1, fun b H2 G2 v2 h2 => ?_⟩
  cases b with
  | true =>
    refine ⟨fun σ' H' => ∃ m', m' < m ∧ ∃ δ1 G1, W m' δ1 G1 ∧ StOk X.K X.mg H0 H' σ' δ1 G1 ∧ Keep H H', fun σ' H' ⟨m', hm, r⟩ => ⟨m', hm, r⟩, ?_⟩
    refine ⟨G2, δ1, _, s1.step v2, h2, ⟨fun σ' H' δ' G' kp s' ⟨m', hm, w'⟩ => ⟨m', hm, δ', G', w', s', (kp1.trans v2.kp).trans kp⟩, fun v H' d G' v' r h => k.rt v H' d G' ⟨(kp1.trans v2.kp).trans v'.kp, v'.sm⟩ r h,
      fun σ' H' δ' G' kp s' h => k.nx σ' H' δ' G' ((kp1.trans v2.kp).trans kp) s' h, fun σ' H' δ' G' kp s' ⟨m', hm, w'⟩ => ⟨m', hm, δ', G', w', s', (kp1.trans v2.kp).trans kp⟩⟩⟩
  | false => exact k.nx σ1 H2 δ1 G2 (kp1.trans v2.kp) (s1.step v2) h2

/-! ### what is walked -/
structure ItOk (K : PySem.W.Frag) (mg : Str → Option Value) (Hs : Hp) (J : It) (items : List D) (chk : GH → Prop) : Prop where
  go : ∀ i H G, Keep Hs H → Sim K mg G H → chk G → i < items.length → J.go i H
  yld : ∀ i H G x H' d, Keep Hs H → Sim K mg G H → chk G → items[i]? = some d → J.yld i H x H' → VOk K mg H H' G ∧ Rep K H' d x
  stop : ∀ i H G, Keep Hs H → Sim K mg G H → chk G → i = items.length → J.stop i H
abbrev ID := SD → GH → (List D → (GH → Prop) → GH → Prop) → Prop
def starI (K : PySem.W.Frag) (mg : Str → Option Value) (H0 : Hp) (t : ID) : TI := fun σ H R => ∃ G δ Q, StOk K mg H0 H σ δ G ∧ t δ G Q ∧ ∀ J H' items chk G', VOk K mg H H' G' → ItOk K mg H' J items chk → Q items chk G' → R J H'
def PId (X : Cx) (H0 : Hp) (tg iter : Expr) (t : ID) : Prop := PI X tg iter (starI X.K X.mg H0 t)
theorem PI.imp {te te' : TI} (h : PI X tg e te) (k : ∀ σ H R, te' σ H R → te σ H R) : PI X tg e te' := ⟨fun pins s σ H R I q => h.run pins s σ H R I (k σ H R q)⟩

def forD (chk : GH → Prop) (g : GD) (tb : BD) (E : EndD) : List D → SD → GH → Prop
  | [], δ, G => chk G ∧ E.nx δ G
  | d :: ds, δ, G => chk G ∧ g d δ G fun δ' G' => tb ⟨forD chk g tb E ds, E.rt, E.nx, forD chk g tb E ds⟩ δ' G'
def dFor (ti : ID) (g : GD) (tb : BD) : BD := fun E δ G => ti δ G fun items chk G1 => forD chk g tb E items δ G1
theorem forD_chk {chk : GH → Prop} {g : GD} {tb : BD} {E : EndD} {ds : List D} {δ : SD} {G : GH} (h : forD chk g tb E ds δ G) : chk G := by
  cases ds <;> exact h.1
theorem s_for {iter : Expr} {ti : ID} {g : GD} (hp : PassesOwn (model X.prog X.w) X.A X.env X.xe) (hc : X.calm = true) (hi : PId X H0 tg iter ti) (hg : PGd X H0 tg g) (hb : PSsd X H0 body t)
    (hs : ∀ x, foldedSetIterable iter X.env x = pure x := by intro _; rfl) : PSd X H0 (.For tg iter body [] pos) (dFor ti g t) := PS.imp (ps_for hp hc hi hg hb hs) fun Dn σ H ⟨G, δ, E, s, h, k⟩ => by
  refine ⟨G, δ, _, s, h, fun J H1 items chk G1 v1 ok h1 => ?_⟩
  refine ⟨fun i m σ2 H2 => m = items.length - i ∧ i ≤ items.length ∧ ∃ δ2 G2, StOk X.K X.mg H0 H2 σ2 δ2 G2 ∧ Keep H1 H2 ∧ forD chk g t E (items.drop i) δ2 G2, ⟨_, rfl, Nat.zero_le _, δ, G1, s.step v1, .refl _, h1⟩, ?_⟩
  rintro i m σ2 H2 ⟨rfl, hi, δ2, G2, s2, kp2, h2⟩
  have c2 := forD_chk h2
  by_cases hlt : i < items.length
  · have e : items.drop i = items[i] :: items.drop (i + 1) := List.drop_eq_getElem_cons hlt
    rw [e] at h2
    refine .inr ⟨ok.go i H2 G2 kp2 s2.sm c2 hlt, fun σ' H' => ∃ δ3 G3, StOk X.K X.mg H0 H' σ' δ3 G3 ∧ Keep H1 H' ∧ forD chk g t E (items.drop (i + 1)) δ3 G3, fun σ' H' r => ⟨_, ?_, rfl, hlt, r⟩, fun x H3 hy => ?_⟩
    · omega
    · obtain ⟨v3, r3⟩ := ok.yld i H2 G2 x H3 items[i] kp2 s2.sm c2 (by simp [hlt]) hy
      refine ⟨items[i], G2, δ2, _, s2.step v3, r3, h2.2, fun σ' H' δ' G' kp s' h' => ⟨G', δ', _, s', h', ?_⟩⟩
      have kk := kp2.trans (v3.kp.trans kp)
      exact ⟨fun σ4 H4 δ4 G4 kp4 s4 h4 => ⟨δ4, G4, s4, kk.trans kp4, h4⟩, fun v H4 d G4 v4 r4 h4 => k.rt v H4 d G4 ⟨v1.kp.trans (kk.trans v4.kp), v4.sm⟩ r4 h4,
        fun σ4 H4 δ4 G4 kp4 s4 h4 => k.nx σ4 H4 δ4 G4 (v1.kp.trans (kk.trans kp4)) s4 h4, fun σ4 H4 δ4 G4 kp4 s4 h4 => ⟨δ4, G4, s4, kk.trans kp4, h4⟩⟩
  · have e : items.drop i = [] := List.drop_eq_nil_of_le (by omega)
    rw [e] at h2
    exact .inl ⟨ok.stop i H2 G2 kp2 s2.sm c2 (by omega), k.nx σ2 H2 δ2 G2 (v1.kp.trans kp2) s2 h2.2⟩

/-! ### patterns of names -/
inductive Pat where
  | nm (i : Nat)
  | tp (ps : List Pat)
mutual
def patT (K : PySem.W.Frag) : Pat → TG
  | .nm i => gName i
  | .tp ps => gTup K ps.length (patTs K ps)
def patTs (K : PySem.W.Frag) : List Pat → TGs
  | [] => gNil
  | p :: ps => gCons (patT K p) (patTs K ps)
end
mutual
def bindP : Pat → D → SD → Option SD
  | .nm i, d, δ => some (δ.set i (some d))
  | .tp ps, .tup ds, δ => bindPs ps ds δ
  | .tp _, _, _ => none
def bindPs : List Pat → List D → SD → Option SD
  | [], [], δ => some δ
  | p :: ps, d :: ds, δ => (bindP p d δ).bind (bindPs ps ds)
  | [], _ :: _, _ => none
  | _ :: _, [], _ => none
end
mutual
def slotsP : Pat → List Nat
  | .nm i => [i]
  | .tp ps => slotsPs ps
def slotsPs : List Pat → List Nat
  | [] => []
  | p :: ps => slotsP p ++ slotsPs ps
end
theorem wipe_set_out {σ : L2.St} {i : Nat} {x : Option V} : ∀ {vs : List Nat}, i ∉ vs → wipe (σ.set i x) vs = (wipe σ vs).set i x
  | [], _ => rfl
  | v :: vs, h => by
    unfold wipe
    rw [wipe_set_out (fun z => h (List.mem_cons_of_mem _ z)), List.set_comm _ _ (fun z => h (by simp [z]))]
theorem wipe_set_in {σ : L2.St} {i : Nat} {x : Option V} : ∀ {vs : List Nat}, i ∈ vs → wipe (σ.set i x) vs = wipe σ vs
  | [], h => by cases h
  | v :: vs, h => by
    unfold wipe
    by_cases hi : i ∈ vs
    · rw [wipe_set_in hi]
    · rw [wipe_set_out hi]
      have : i = v := by
        rcases List.mem_cons.mp h with e | e
        · exact e
        · exact absurd e hi
      subst this
      rw [List.set_set]
mutual
theorem patT_ok {K : PySem.W.Frag} {mg : Str → Option Value} {H : Hp} {vs : List Nat} {G : GH} : ∀ (p : Pat) (d : D) (v : V) (δ δ' : SD) (σ : L2.St), (∀ i ∈ slotsP p, i ∈ vs) → StOk K mg H0 H σ δ G → Rep K H d v → bindP p d δ = some δ' →
    ∀ R : L2.St → Hp → Prop, (∀ σ', StOk K mg H0 H σ' δ' G → wipe σ' vs = wipe σ vs → R σ' H) → patT K p v σ H R
  | .nm i, d, v, δ, δ', σ, hv, s, r, hb, R, k => by
    rw [bindP] at hb
    cases hb
    rw [patT]
    exact k _ (s.set r) (wipe_set_in (hv i (by simp [slotsP])))
  | .tp ps, d, v, δ, δ', σ, hv, s, r, hb, R, k => by
    cases d with
    | tup ds =>
      rw [bindP] at hb
      rw [rep_tup] at r
      obtain ⟨a, xs, e, hs, r⟩ := r
      rw [patT]
      have hl := bindPs_len ps ds δ δ' hb
      exact ⟨a, xs, e, hs, by rw [r.length, hl], patTs_ok ps ds xs δ δ' σ (by simpa [slotsP] using hv) s r hb R k⟩
    | _ => simp [bindP] at hb
theorem patTs_ok {K : PySem.W.Frag} {mg : Str → Option Value} {H : Hp} {vs : List Nat} {G : GH} : ∀ (ps : List Pat) (ds : List D) (xs : List V) (δ δ' : SD) (σ : L2.St), (∀ i ∈ slotsPs ps, i ∈ vs) → StOk K mg H0 H σ δ G → Reps K H ds xs → bindPs ps ds δ = some δ' →
    ∀ R : L2.St → Hp → Prop, (∀ σ', StOk K mg H0 H σ' δ' G → wipe σ' vs = wipe σ vs → R σ' H) → patTs K ps xs σ H R
  | [], ds, xs, δ, δ', σ, hv, s, r, hb, R, k => by
    cases ds with
    | nil =>
      rw [bindPs] at hb
      cases hb
      rw [Reps] at r
      rw [patTs]
      exact ⟨r, k σ s rfl⟩
    | cons _ _ => simp [bindPs] at hb
  | p :: ps, ds, xs, δ, δ', σ, hv, s, r, hb, R, k => by
    cases ds with
    | nil => simp [bindPs] at hb
    | cons d ds =>
      rw [bindPs] at hb
      cases e : bindP p d δ with
      | none => rw [e] at hb; cases hb
      | some δ1 =>
        rw [e] at hb
        rw [Reps] at r
        obtain ⟨v, r', rfl, r1, r2⟩ := r
        rw [patTs]
        refine ⟨v, r', rfl, patT_ok p d v δ δ1 σ (fun i h => hv i (by simp [slotsPs, h])) s r1 e _ fun σ1 s1 w1 => ?_⟩
        exact patTs_ok ps ds r' δ1 δ' σ1 (fun i h => hv i (by simp [slotsPs, h])) s1 r2 hb R fun σ2 s2 w2 => k σ2 s2 (w2.trans w1)
theorem bindPs_len : ∀ (ps : List Pat) (ds : List D) (δ δ' : SD), bindPs ps ds δ = some δ' → ds.length = ps.length
  | [], [], _, _, _ => rfl
  | [], _ :: _, _, _, h => by simp [bindPs] at h
  | _ :: _, [], _, _, h => by simp [bindPs] at h
  | p :: ps, d :: ds, δ, δ', h => by
    rw [bindPs] at h
    cases e : bindP p d δ with
    | none => rw [e] at h; cases h
    | some δ1 =>
      rw [e] at h
      simp [bindPs_len ps ds δ1 δ' h]
end
/-! ### comprehensions -/
def wipeD (δ : SD) : List Nat → SD
  | [] => δ
  | v :: vs => (wipeD δ vs).set v none
theorem wipeD_length (δ : SD) : ∀ vs : List Nat, (wipeD δ vs).length = δ.length
  | [] => rfl
  | v :: vs => by unfold wipeD; rw [List.length_set, wipeD_length δ vs]
theorem RepS.none {K : PySem.W.Frag} {H : Hp} {δ : SD} {σ : L2.St} (r : RepS K H δ σ) (i : Nat) : RepS K H (δ.set i none) (σ.set i none) := ⟨by simp [r.1], fun j d e => by
  by_cases hj : i = j
  · subst hj
    rw [List.getElem?_set] at e
    split at e
    · split at e <;> cases e
    · contradiction
  · rw [List.getElem?_set_ne hj] at e
    obtain ⟨v, h1, h2⟩ := r.2 j d e
    exact ⟨v, by rw [List.getElem?_set_ne hj]; exact h1, h2⟩⟩
theorem RepS.wipe {K : PySem.W.Frag} {H : Hp} {δ : SD} {σ : L2.St} (r : RepS K H δ σ) : ∀ vs : List Nat, RepS K H (wipeD δ vs) (wipe σ vs)
  | [] => r
  | v :: vs => by unfold wipeD L2.wipe; exact RepS.none (RepS.wipe r vs) v
theorem wipe_wipe (σ : L2.St) : ∀ vs : List Nat, wipe (wipe σ vs) vs = wipe σ vs
  | [] => rfl
  | v :: vs => by
    show (wipe ((wipe σ vs).set v none) vs).set v none = (wipe σ vs).set v none
    by_cases hm : v ∈ vs
    · rw [wipe_set_in hm, wipe_wipe σ vs]
    · rw [wipe_set_out hm, wipe_wipe σ vs, List.set_set]
def lcD (chk : GH → Prop) (p : Pat) (tt : TD) (te : ED) (δ : SD) (l : Addr) (Q : QK) : List D → GH → Prop
  | [], G => chk G ∧ Q (.ref l) G
  | d :: ds, G => chk G ∧ ∃ δ', bindP p d δ = some δ' ∧ tt δ' G fun b G2 => if b = true then te δ' G2 fun y G3 => ∃ acc, G3 l = some (.lst acc) ∧ acc.length < sizeLine ∧ lcD chk p tt te δ l Q ds (gupd G3 l (.lst (acc ++ [y]))) else lcD chk p tt te δ l Q ds G2
def dLc (ti : ID) (p : Pat) (tt : TD) (te : ED) (vs : List Nat) : ED := fun δ G Q => ti δ G fun items chk G1 => ∀ l, G1 l = none → lcD chk p tt te (wipeD δ vs) l Q items (gupd G1 l (.lst []))
theorem lcD_chk {chk : GH → Prop} {p : Pat} {tt : TD} {te : ED} {δ : SD} {l : Addr} {Q : QK} {ds : List D} {G : GH} (h : lcD chk p tt te δ l Q ds G) : chk G := by
  cases ds <;> exact h.1
theorem star_lc {ti : ID} {p : Pat} {tt : TD} {te : ED} {vs : List Nat} (hv : ∀ i ∈ slotsP p, i ∈ vs) {σ : L2.St} {H : Hp} {R : VK} (h : star X.K X.mg H0 (dLc ti p tt te vs) σ H R) :
    tLc (starI X.K X.mg H0 ti) (patT X.K p) (starT X.K X.mg H0 tt) (star X.K X.mg H0 te) vs σ H R := by
  obtain ⟨G, δ, Q, s, h, q⟩ := h
  refine ⟨G, δ, _, s, h, fun J H1 items chk G1 v1 ok h1 l hl => ?_⟩
  have h1 := h1 l (v1.sm.free hl)
  have kpl : Keep H1 (upd H1 l (.lst [])) := .new hl
  refine ⟨fun i m H2 => m = items.length - i ∧ i ≤ items.length ∧ Keep H1 H2 ∧ ∃ G2, Sim X.K X.mg G2 H2 ∧ lcD chk p tt te (wipeD δ vs) l Q (items.drop i) G2,
    ⟨_, rfl, Nat.zero_le _, kpl, _, v1.sm.new (o := .lst []) hl ⟨[], upd_same, .nil⟩, h1⟩, ?_⟩
  rintro i m H2 ⟨rfl, hi, kp2, G2, s2, h2⟩
  have c2 := lcD_chk h2
  have st2 : StOk X.K X.mg H0 H2 (wipe σ vs) (wipeD δ vs) G2 := ⟨s.kp.trans (v1.kp.trans kp2), ((s.sl.keep v1.kp).keep kp2).wipe vs, s2⟩
  by_cases hlt : i < items.length
  · have e : items.drop i = items[i] :: items.drop (i + 1) := List.drop_eq_getElem_cons hlt
    rw [e] at h2
    obtain ⟨_, δ', hb, h2⟩ := h2
    refine .inr ⟨ok.go i H2 G2 kp2 s2 c2 hlt, fun H' => Keep H1 H' ∧ ∃ G3, Sim X.K X.mg G3 H' ∧ lcD chk p tt te (wipeD δ vs) l Q (items.drop (i + 1)) G3, fun H' r => ⟨_, ?_, rfl, hlt, r⟩, fun x H3 hy => ?_⟩
    · omega
    · obtain ⟨v3, r3⟩ := ok.yld i H2 G2 x H3 items[i] kp2 s2 c2 (by simp [hlt]) hy
      refine patT_ok p items[i] x _ δ' _ hv (st2.step v3) r3 hb _ fun σ4 s4 w4 => ⟨w4.trans ?_, ?_⟩
      · exact wipe_wipe _ _
      · refine ⟨G2, δ', _, s4, h2, fun b H5 G5 v5 h5 => ?_⟩
        cases b with
        | false => exact ⟨kp2.trans (v3.kp.trans v5.kp), G5, v5.sm, h5⟩
        | true =>
          refine ⟨G5, δ', _, s4.step v5, h5, fun y H6 d G6 v6 r6 h6 => ?_⟩
          obtain ⟨acc, ea, hz, h6⟩ := h6
          obtain ⟨us, eu, ru⟩ := v6.sm l _ ea
          have kp7 : Keep H6 (upd H6 l (.lst (us ++ [y]))) := .put eu (fun _ z => by cases z) (fun _ _ z => by cases z)
          refine ⟨us, eu, by rw [ru.length]; exact hz, kp2.trans (v3.kp.trans (v5.kp.trans (v6.kp.trans kp7))), _, v6.sm.put (o := .lst (acc ++ [d])) kp7 ⟨_, upd_same, ?_⟩, h6⟩
          exact (Reps.keep kp7 _ _ ru).append (.one (Rep.keep kp7 _ _ r6))
  · have e : items.drop i = [] := List.drop_eq_nil_of_le (by omega)
    rw [e] at h2
    exact .inl ⟨ok.stop i H2 G2 kp2 s2 c2 (by omega), q _ H2 _ G2 ⟨v1.kp.trans kp2, s2⟩ (by rw [Rep]) h2.2⟩
def PTsd (X : Cx) (H0 : Hp) (es : List Expr) (t : TD) : Prop := PTs X es (starT X.K X.mg H0 t)
def dYes : TD := fun _ G Q => Q true G
theorem PTs.imp {es : List Expr} {te te' : TT} (h : PTs X es te) (k : ∀ σ H R, te' σ H R → te σ H R) : PTs X es te' := ⟨fun pins s σ H Q I q => h.run pins s σ H Q I (k σ H Q q)⟩
theorem ts_nil : PTsd X H0 [] dYes := PTs.imp pts_nil fun σ H R ⟨G, δ, Q, s, h, q⟩ => q true H G s.vok h
theorem ts_one (h : PTd X H0 c ua) : PTsd X H0 [c] ua := pts_one h
abbrev PGp (X : Cx) (tg : Expr) (p : Pat) : Prop := PG X tg (patT X.K p)
abbrev PGsp (X : Cx) (tg : List Expr) (p : List Pat) : Prop := PGs X tg (patTs X.K p)
theorem p_name {i : Nat} {x : Str} (hN : X.N.Nodup) (hi : X.N[i]? = some x := by rfl) (hx : Loc X.env.scope x := by first | exact Or.inl rfl | exact Or.inr rfl) (hf : X.fn x = true ∨ X.env.scope.names.lookup x = some .local := by first | exact .inl rfl | exact .inr rfl | assumption) : PGp X (.Name x pos) (.nm i) := pg_name hN hi hx hf
theorem ps_nil' : PGsp X [] [] := pgs_nil
theorem ps_cons' {es : List Expr} {p : Pat} {ps : List Pat} (h1 : PGp X e p) (h2 : PGsp X es ps) (hs : (assignEach (e :: es) X.env).map (·.2) = assign e X.env :: (assignEach es X.env).map (·.2) := by rfl) : PGsp X (e :: es) (p :: ps) := pgs_cons h1 h2 hs
theorem p_tup {es : List Expr} {k : Nat} {ps : List Pat} (hc : X.calm = true) (h : PGsp X es ps) (hn : (assignEach es X.env).length = ps.length := by rfl) (hst : (assignEach es X.env).findIdx? (·.1) = none := by rfl) : PGp X (.Tuple es k pos) (.tp ps) := pg_tup hc h hn hst
theorem d_lc {elt iter : Expr} {ifs : List Expr} {scope : Scope} {own : List (Str × Nat)} {ti : ID} {p : Pat} {tt : TD} {te : ED} (hc : X.calm = true) (hN : X.N.Nodup) (ok : BlkOk X.N X.env.scope scope own) (hv : ∀ i ∈ slotsP p, i ∈ own.map (·.2)) (hi : PId X H0 tg iter ti)
    (hg : ∀ (s : Shared) (H : Hp) (C : Addr) (cl : List (Str × Addr)) (fp : List Addr), PGp (X.blk s H scope (compEnvC scope cl C X.env) fp) tg p) (ht : ∀ (s : Shared) (H : Hp) (C : Addr) (cl : List (Str × Addr)) (fp : List Addr), PTsd (X.blk s H scope (compEnvC scope cl C X.env) fp) H0 ifs tt)
    (he : ∀ (s : Shared) (H : Hp) (C : Addr) (cl : List (Str × Addr)) (fp : List Addr), PEd (X.blk s H scope (compEnvC scope cl C X.env) fp) H0 elt te) (hs : ∀ x, foldedSetIterable iter X.env x = pure x := by intro _; rfl) :
    PEd X H0 (.ListComp elt [⟨tg, iter, ifs, 0⟩] scope pos) (dLc ti p tt te (own.map (·.2))) := PE.imp (pe_lc (g := patT X.K p) (tt := starT X.K X.mg H0 tt) (te := star X.K X.mg H0 te) hc hN hi ok hg ht he hs) fun σ H R h => star_lc hv h
theorem s_setLc (i : Nat) {y : Str} {py spos : Pos} {elt iter : Expr} {ifs : List Expr} {scope : Scope} {own : List (Str × Nat)} {ti : ID} {p : Pat} {tt : TD} {te : ED} (hc : X.calm = true) (hN : X.N.Nodup) (ok : BlkOk X.N X.env.scope scope own) (hv : ∀ i ∈ slotsP p, i ∈ own.map (·.2))
    (hsw : swapsWith (.ListComp elt [⟨tg, iter, ifs, 0⟩] scope pos) (some (.Name y py)) spos.line X.env = pure true) (hi : PId X H0 tg iter ti)
    (hg : ∀ (s : Shared) (H : Hp) (C : Addr) (cl : List (Str × Addr)) (fp : List Addr), PGp (X.blk s H scope (compEnvC scope cl C X.env) fp) tg p) (ht : ∀ (s : Shared) (H : Hp) (C : Addr) (cl : List (Str × Addr)) (fp : List Addr), PTsd (X.blk s H scope (compEnvC scope cl C X.env) fp) H0 ifs tt)
    (he : ∀ (s : Shared) (H : Hp) (C : Addr) (cl : List (Str × Addr)) (fp : List Addr), PEd (X.blk s H scope (compEnvC scope cl C X.env) fp) H0 elt te) (hy : X.N[i]? = some y := by rfl) (hyl : X.env.scope.names.lookup y = some .local := by rfl) (hs : ∀ x, foldedSetIterable iter X.env x = pure x := by intro _; rfl) :
    PSd X H0 (.Assign [.Name y py] (.ListComp elt [⟨tg, iter, ifs, 0⟩] scope pos) spos) (dAsg (dLc ti p tt te (own.map (·.2))) (gdName i)) := PS.imp (ps_setLc (g := patT X.K p) (tt := starT X.K X.mg H0 tt) (te := star X.K X.mg H0 te) hc hN hy hyl hsw hi ok hg ht he hs) fun Dn σ H ⟨G, δ, E, s, h, k⟩ =>
  star_lc hv ⟨G, δ, _, s, h, fun v H1 d G1 v1 r1 h1 => k.nx _ H1 _ G1 v1.kp ((s.step v1).set r1) h1⟩
end
end Q
set_option maxHeartbeats 4000000
/-! QE: what is walked -/
namespace Q
open PySem PySem.Spec PyProof.Rows L2
section
variable {X : Cx} {H0 : Hp} {e a b c tg : Expr} {rest : List Expr} {pos p : Pos} {ta tb tc : ED}

theorem PI.or {iter : Expr} {w1 w2 : TI} (h1 : PI X tg iter w1) (h2 : PI X tg iter w2) : PI X tg iter (fun σ H R => w1 σ H R ∨ w2 σ H R) :=
  ⟨fun pins s σ H R I q => q.elim (h1.run pins s σ H R I) (h2.run pins s σ H R I)⟩
def signs (z : Str) : List D := z.cps.toList.map fun c => D.str ⟨#[c]⟩
/-- a list, a tuple, a text walked -/
def walkD (x : D) (G : GH) (Q : List D → (GH → Prop) → GH → Prop) : Prop := match x with
  | .tup ds => Q ds (fun _ => True) G
  | .rol ds => Q ds (fun _ => True) G
  | .ref a => ∃ ds, G a = some (.lst ds) ∧ Q ds (fun G' => G' a = some (.lst ds)) G
  | .str z => Q (signs z) (fun _ => True) G
  | _ => False
def diSeq (ta : ED) : ID := fun δ G Q => ta δ G fun x G1 => walkD x G1 Q
/-- a source of items: a list or a tuple at a place -/
inductive Sc where
  | l (a : Addr)
  | t (a : Addr)
def Sc.ad : Sc → Addr
  | .l a => a
  | .t a => a
def Sc.at (K : PySem.W.Frag) (H : Hp) : Sc → List V → Prop
  | .l a, xs => SqL K H a xs
  | .t a, xs => SqT K H a xs
def Sc.iter (h : Heap) (it : Addr) (i : Nat) : Sc → Prop
  | .l a => h.IsListIter it a i
  | .t a => h.IsTupleIter it a i
def Sc.has (h : Heap) (its : Array Value) : Sc → Prop
  | .l a => h.IsList a its
  | .t a => h.IsTuple a its
def Sc.ob : Sc → Obj
  | .l a => { cls := .type "list_iterator", data := .fields #[.ref a, .int 0 0] }
  | .t a => { cls := .type "tuple_iterator", data := .fields #[.ref a, .int 0 0] }
theorem Sc.begins (S : Sc) (its : Array Value) : Begins (.ref S.ad) S.ob fun h => S.has h its := by
  cases S with
  | l a => exact begins_list a its
  | t a => exact begins_tuple a its
theorem Sc.iter_new {S : Sc} {h : Heap} {it : Addr} (e : h.get? it = some S.ob) : S.iter h it 0 := by
  cases S with
  | l a => exact ⟨_, e, rfl, rfl⟩
  | t a => exact ⟨_, e, rfl, rfl⟩
theorem Sc.iter_obj {S : Sc} {h : Heap} {it : Addr} {i : Nat} (e : S.iter h it i) : ∃ o, h.get? it = some o ∧ ∀ v, o.data ≠ .cell v := by
  cases S with
  | l a => obtain ⟨o, h1, h2, h3⟩ := e; exact ⟨o, h1, fun v z => by rw [h3] at z; cases z⟩
  | t a => obtain ⟨o, h1, h2, h3⟩ := e; exact ⟨o, h1, fun v z => by rw [h3] at z; cases z⟩
theorem Sc.iter_at {S : Sc} {h h' : Heap} {it : Addr} {i : Nat} (e : S.iter h it i) (k : ∀ o, h.get? it = some o → h'.get? it = some o) : S.iter h' it i := by
  cases S with
  | l a => obtain ⟨o, h1, h2⟩ := e; exact ⟨o, k o h1, h2⟩
  | t a => obtain ⟨o, h1, h2⟩ := e; exact ⟨o, k o h1, h2⟩
theorem Sc.get {S : Sc} {pins : List (Addr × Obj)} {σ : L2.St} {H : Hp} {s : Shared} {xs : List V} (I : Inv X pins σ H s) (h : S.at X.K H xs) : ∃ its : List Value, Vals xs its ∧ S.has s.heap its.toArray := by
  cases S with
  | l a => obtain ⟨its, r, q, _⟩ := I.list h; exact ⟨its, r, q.isList⟩
  | t a => obtain ⟨its, r, q, _⟩ := I.tuple h; exact ⟨its, r, q⟩
theorem Sc.inj {S : Sc} {pins : List (Addr × Obj)} {σ : L2.St} {H : Hp} {s : Shared} {xs ys : List V} (I : Inv X pins σ H s) (h : S.at X.K H xs) (h' : S.at X.K H ys) : xs = ys := by
  cases S with
  | l a => exact I.list_inj h h'
  | t a => exact I.tuple_inj h h'
/-- an iterator over it lies apart from it -/
theorem Sc.apart {S : Sc} {pins : List (Addr × Obj)} {σ : L2.St} {H : Hp} {s : Shared} {xs : List V} {it : Addr} {i : Nat} (I : Inv X pins σ H s) (h : S.at X.K H xs) (hi : S.iter s.heap it i) : S.ad ≠ it := by
  intro z
  subst z
  cases S with
  | l a =>
    obtain ⟨its, r, ⟨o, n, e1, e2, _⟩, _⟩ := I.list h
    obtain ⟨o', e3, e4, _⟩ := hi
    rw [show Sc.ad (.l a) = a from rfl, e1] at e3; cases e3
    rw [e2] at e4
    injection e4 with e4
    exact absurd e4 (by decide)
  | t a =>
    obtain ⟨its, r, ⟨o, e1, e2, _⟩, _⟩ := I.tuple h
    obtain ⟨o', e3, e4, _⟩ := hi
    rw [show Sc.ad (.t a) = a from rfl, e1] at e3; cases e3
    rw [e2] at e4
    injection e4 with e4
    exact absurd e4 (by decide)
theorem Sc.draws {P : Program} {w : World} {A : Around} (hh : A.handled = none) (S : Sc) (it : Addr) (hne : S.ad ≠ it) (its : Array Value) :
    Draws P w A it [it, S.ad] its.size (fun i v => its[i]? = some v) (fun i h => S.iter h it i ∧ S.has h its) := by
  cases S with
  | l a => exact .list hh it a hne its
  | t a => exact .tuple hh it a hne its


theorem Sc.not_cls {S : Sc} {h : Heap} {its : Array Value} {q : Addr} {o : Obj} {c : String} (hh : S.has h its) (e : h.get? q = some o) (hc : o.cls = .type c) (n : c ≠ "list" ∧ c ≠ "tuple") : S.ad ≠ q := by
  intro z
  cases S with
  | l a =>
    obtain ⟨o', e1, e2, _⟩ := hh
    rw [show a = q from z, e] at e1
    cases e1
    rw [hc] at e2
    injection e2 with e2
    exact n.1 e2
  | t a =>
    obtain ⟨o', e1, e2, _⟩ := hh
    rw [show a = q from z, e] at e1
    cases e1
    rw [hc] at e2
    injection e2 with e2
    exact n.2 e2

/-! ### enumerate -/
def ItE (K : PySem.W.Frag) (k0 : Int) (S : Sc) : It :=
  ⟨fun i H => ∃ xs x, S.at K H xs ∧ xs[i]? = some x, fun i H v H' => ∃ T x, v = .ref T ∧ H T = none ∧ H' = upd H T (.tup [.int (k0 + (i : Nat)), x]) ∧ ∀ xs, S.at K H xs → xs[i]? = some x, fun i H => ∃ xs, S.at K H xs ∧ xs.length = i⟩
theorem new_tup {P : Program} {w : World} {H : Hp} {h' : Heap} {T : Addr} {xs : List V} {us : List Value} (r : Vals xs us) (hz : xs.length ≤ 3) (ht : h'.IsTuple T us.toArray) : ObjOk P w (upd H T (.tup xs)) h' T (.tup xs) :=
  ⟨Nat.le_trans hz (by decide), us, r, ht⟩
theorem turn_E {P : Program} {w : World} {K : PySem.W.Frag} {elts : List Expr} {kk : Nat} {tpos : Pos} (k0 : Int) (S : Sc) (q it : Addr) :
    Turn P w K (.Tuple elts kk tpos) (ItE K k0 S) [q, it] q (fun i h => (∃ old, IsEnum h q it (k0 + ((i : Nat) : Int)) old) ∧ S.iter h it i ∧ q ≠ it) where
  mem := by simp
  obj := fun i h st b hb => by
    obtain ⟨⟨old, he⟩, hi, _⟩ := st
    rcases List.mem_cons.mp hb with z | z
    · rw [z]; exact ⟨_, he, fun v q => nomatch q⟩
    · rw [List.mem_singleton.mp z]; exact Sc.iter_obj (S := S) hi
  keep := fun i h h' st k => let ⟨⟨old, he⟩, hi, hne⟩ := st; ⟨⟨old, k q (by simp) _ he⟩, Sc.iter_at (S := S) hi fun o e => k it (by simp) o e, hne⟩
  item := by
    intro X hP hw hK hc i pins s σ H E I hf st hg
    subst hP hw hK
    obtain ⟨he, hit, hne⟩ := st
    obtain ⟨xs, x, hq, hx⟩ := hg
    obtain ⟨its, rv, hh⟩ := Sc.get I hq
    obtain ⟨u, hu, ru⟩ := rv.get hx
    have nq : S.ad ≠ q := by
      obtain ⟨old, he⟩ := he
      exact Sc.not_cls hh he rfl (by decide)
    have D := Sc.draws (P := X.prog) (w := X.w) (A := X.A.in1) (I.ok.hd hc) S it (Sc.apart I hq hit) its.toArray
    have W := GoesN.enumFrom (elts := elts) (x1 := kk) (pos := tpos) k0 D q hne (by
      intro hm
      rcases List.mem_cons.mp hm with z | z
      · exact hne z
      · exact nq (List.mem_singleton.mp z).symm) (by simp)
    refine W.goes i s _ E (by
      have := (List.getElem?_eq_some_iff.mp hu).1
      simpa using this) ⟨he, hit, hh⟩ fun v h' tk hY st' hk _ => ?_
    obtain ⟨T, t, y, rfl, hT, hy, tup⟩ := hY
    have ey : y = u := by
      have : its[i]? = some y := by simpa using hy
      rw [hu] at this; exact (Option.some.inj this).symm
    subst ey
    have I1 := I.turnedNew (ch := [q, it]) (t' := tk) hk hf hT (new_tup (P := X.prog) (w := X.w) (H := H) (xs := [.int (k0 + (i : Nat)), x]) (us := [.int (k0 + (i : Nat)) t, y]) (.cons ⟨_, rfl⟩ (.cons ru .nil)) (by show 2 ≤ 3; decide) tup)
    refine ⟨.ref T, _, I1, rfl, ⟨T, x, rfl, I.hok.fresh hT, rfl, fun ys hys => by rw [Sc.inj I hys hq]; exact hx⟩, ⟨st'.1, st'.2.1, hne⟩, fun b hb => ?_⟩
    have hbl : b < s.heap.objs.size := by
      rcases List.mem_cons.mp hb with z | z
      · obtain ⟨old, he⟩ := he; rw [z]; exact Heap.lt_size he
      · obtain ⟨o, h1, _⟩ := Sc.iter_obj (S := S) hit; rw [List.mem_singleton.mp z]; exact Heap.lt_size h1
    rw [upd_ne (Nat.ne_of_lt (Nat.lt_of_lt_of_le hbl hT))]
    exact (hf b hb).1
  done := by
    intro X hP hw hK hc i pins s σ H E I hf st hg
    subst hP hw hK
    obtain ⟨⟨old, he⟩, hit, hne⟩ := st
    obtain ⟨xs, hq, hx⟩ := hg
    obtain ⟨its, rv, hh⟩ := Sc.get I hq
    have hl := rv.length
    have D := Sc.draws (P := X.prog) (w := X.w) (A := X.A.in1) (I.ok.hd hc) S it (Sc.apart I hq hit) its.toArray
    obtain ⟨f0, f1, f2, f3, f4, f5⟩ := hf it (by simp)
    have e : its.toArray.size = i := by simp; omega
    exact wpAny_pyNext_enum_endD D he (by rw [e]; exact ⟨hit, hh⟩) fun h' eb => ⟨rfl, I.turned (t' := s.toks) (fun b o hb q => eb b o hb q) f0 f1 f3 f4 f5⟩
  self := fun A i s Q E st h => let ⟨⟨_, he⟩, _⟩ := st; wpAny_pyIter_enum he h
/-- enumerate(v): its two new cells -/
theorem enum1_new {v : Value} {o : Obj} {B : Heap → Prop} (b : Begins v o B) :
    Meets (Builtin.«enumerate.__new__» ⟨[.type "enumerate", v], []⟩) (fun _ R s => B s.heap ∧
      R (.ok (.ret (.ref (s.heap.push o).objs.size))) { s with heap := (s.heap.push o).push { cls := .type "enumerate", data := .fields #[.none, .bool false, .ref s.heap.objs.size, rawInt 0, .none, .none] } }) :=
  .of_wp fun prog w A R s h => by
    obtain ⟨hp, g, d, tk, os⟩ := s
    obtain ⟨h1, h⟩ := h
    have hsub := sub_enumerate
    have q1 : ∀ {A' : Around} {E Q : Value → Shared → Prop}, Q (.ref hp.objs.size) ⟨hp.push o, g, d, tk, os⟩ → wpAny (model prog w) A' (pyIter v) Q E ⟨hp, g, d, tk, os⟩ := fun q =>
      b.iter prog w _ _ ⟨hp, g, d, tk, os⟩ _ h1 q
    wp_walk using q1
    refine wpAny_stack_any fun st => wpAny_pure ?_
    split
    · rename_i c _ _ _ _ _
      cases (c == Value.type "enumerate") <;> (wp_walk using q1; exact ⟨_, rfl, h⟩)
    · wp_walk using q1
      exact ⟨_, rfl, h⟩
theorem enum1_call {M : Program} {w : World} {A : Around} {E : Value → Shared → Prop} {s : Shared} {v : Value} {o : Obj} {B : Heap → Prop} {Q : Value → Shared → Prop} (b : Begins v o B) (h1 : B s.heap)
    (h : ∀ h', IsEnum h' (s.heap.objs.size + 1) s.heap.objs.size 0 .none → h'.get? s.heap.objs.size = some o → (∀ b o, s.heap.get? b = some o → h'.get? b = some o) → Q (.ref (s.heap.objs.size + 1)) { s with heap := h' }) :
    wpAny (model M w) A (call (.type "enumerate") [v]) Q E s := by
  refine callType_new F.called_enumerate (by decide) (F.typeCall_enumerate_1 _) (F.newCall_enumerate_1 _) (fun obj => F.args_object_init_2 obj _) F.entry_enumerate_new (enum1_new b) ⟨h1, ?_⟩
  have hz : (s.heap.push o).objs.size = s.heap.objs.size + 1 := Heap.size_push ..
  show _ ∧ _
  rw [hz]
  have g := Heap.get?_push_size (s.heap.push o) (o := { cls := .type "enumerate", data := .fields #[.none, .bool false, .ref s.heap.objs.size, rawInt 0, .none, .none] }) rfl
  rw [hz] at g
  exact ⟨⟨_, g, rfl⟩, h _ g (Heap.get?_push_of_some _ (Heap.get?_push_size _ b.free)) fun b o x => Heap.get?_push_of_some _ (Heap.get?_push_of_some _ x)⟩
def iE (K : PySem.W.Frag) (ta : TA) : TI := fun σ H R => ta σ H fun vs H1 => ∃ S xs, vs = [.ref (Sc.ad S)] ∧ S.at K H1 xs ∧ R (ItE K 0 S) H1
theorem pi_E {ta : TA} {tpos : Pos} {elts : List Expr} {kk : Nat} (hg : Gl X "enumerate") (hm : X.mg "enumerate" = none) (ha : PA X [e] ta) (hs : starEach [e] X.env = [(false, eval e X.env)] := by rfl) :
    PI X (.Tuple elts kk tpos) (.Call (.Name "enumerate" p) [e] [] pos) (iE X.K ta) := by
  refine ⟨fun pins s σ H R I h => ?_⟩
  refine Call_ (ld_blt I hg hm boot_enumerate (PyProof.Rows.callWith_type1 (thn (ha.run pos pins s σ H _ I h) fun us s1 ⟨vs, H1, I1, r1, S, xs, ex, hq, q⟩ => ?_) hs rfl))
  subst ex
  cases r1 with
  | cons r rr =>
    cases rr
    cases r
    obtain ⟨its, rv, hh⟩ := Sc.get I1 hq
    refine enum1_call (S.begins its.toArray) hh fun h' he hit hk => wpAny_pyIter_enum he ?_
    have I2 : Inv X pins σ H1 { s1 with heap := h' } := I1.kept (t' := s1.toks) hk
    refine ⟨s1.heap.objs.size + 1, [s1.heap.objs.size + 1, s1.heap.objs.size], _, _, H1, rfl, I2, turn_E 0 S (s1.heap.objs.size + 1) s1.heap.objs.size, ⟨⟨.none, by simpa using he⟩, Sc.iter_new hit, Nat.succ_ne_self _⟩, fun b hb => ?_, q⟩
    have hle : s1.heap.objs.size ≤ b := by
      rcases List.mem_cons.mp hb with z | z
      · rw [z]; exact Nat.le_add_right _ _
      · rw [List.mem_singleton.mp z]; exact Nat.le_refl _
    exact I1.fpOk hle (I1.hok.fresh hle)

/-! ### lifted -/
theorem seq_sc {K : PySem.W.Frag} {mg : Str → Option Value} {G : GH} {H : Hp} {x : D} {ds : List D} {v : V} (q : SeqG G x ds) (s : Sim K mg G H) (r : Rep K H x v) : ∃ S : Sc, v = .ref S.ad ∧ (∃ xs, S.at K H xs ∧ Reps K H ds xs) ∧
    (∀ H' G' xs, Keep H H' → Sim K mg G' H' → SeqG G' x ds → S.at K H xs → Reps K H ds xs → ∃ ys, S.at K H' ys ∧ Reps K H' ds ys) := by
  cases x with
  | tup es =>
    have e : es = ds := q
    subst e
    rw [rep_tup] at r
    obtain ⟨a, xs, e, h, r⟩ := r
    exact ⟨.t a, e, ⟨xs, h, r⟩, fun H' G' ys k _ _ h r => ⟨ys, k.sqT h, Reps.keep k _ _ r⟩⟩
  | rol es =>
    have e : es = ds := q
    subst e
    rw [rep_rol] at r
    obtain ⟨a, xs, e, h, r⟩ := r
    exact ⟨.l a, e, ⟨xs, h.sq, r⟩, fun H' G' ys k _ _ _ _ => ⟨xs, (k.frL h).sq, Reps.keep k _ _ r⟩⟩
  | ref a =>
    rw [rep_ref] at r
    obtain ⟨vs, e, r'⟩ := s a _ (show G a = some (.lst ds) from q)
    exact ⟨.l a, r, ⟨vs, SqL.of e, r'⟩, fun H' G' ys k s' q' _ _ => by
      obtain ⟨us, e', r2⟩ := s' a _ (show G' a = some (.lst ds) from q')
      exact ⟨us, SqL.of e', r2⟩⟩
  | non => exact q.elim
  | bl _ => exact q.elim
  | int _ => exact q.elim
  | str _ => exact q.elim
  | ty _ => exact q.elim
theorem it_list {K : PySem.W.Frag} {mg : Str → Option Value} {Hs : Hp} {S : Sc} {x : D} {ds : List D} {xs0 : List V} (h0 : S.at K Hs xs0) (r0 : Reps K Hs ds xs0)
    (st : ∀ H' G' xs, Keep Hs H' → Sim K mg G' H' → SeqG G' x ds → S.at K Hs xs → Reps K Hs ds xs → ∃ ys, S.at K H' ys ∧ Reps K H' ds ys) :
    ∀ H G, Keep Hs H → Sim K mg G H → SeqG G x ds → ∃ ys, S.at K H ys ∧ Reps K H ds ys := fun H G k s q => st H G xs0 k s q h0 r0

def Sc.it (K : PySem.W.Frag) : Sc → It
  | .l a => Itl K a
  | .t a => Itt K a
theorem Sc.turn {P : Program} {w : World} {K : PySem.W.Frag} (S : Sc) (it : Addr) : Turn P w K tg (S.it K) [it] it (fun i h => S.iter h it i) := by
  cases S with
  | l a => exact turn_list a it
  | t a => exact turn_tuple a it
def iAny (K : PySem.W.Frag) (tl : TE) : TI := fun σ H R => tl σ H fun x H1 => (∃ S xs, x = .ref (Sc.ad S) ∧ S.at K H1 xs ∧ R (S.it K) H1) ∨ ∃ z, x = .str z ∧ R (Its z) H1
theorem pi_any {l : Expr} {tl : TE} (hl : PE X l tl) : PI X tg l (iAny X.K tl) := by
  refine ⟨fun pins s σ H R I h => ?_⟩
  refine thn (hl.run pins s σ H _ I h) fun v s1 ⟨x, H1, I1, r1, q1⟩ => ?_
  rcases q1 with ⟨S, xs, ex, hq, q⟩ | ⟨z, ex, q⟩
  · subst ex
    cases r1
    obtain ⟨its, rv, hh⟩ := Sc.get I1 hq
    have B := S.begins its.toArray
    refine B.iter X.prog X.w _ _ s1 _ hh ?_
    have I2 : Inv X pins σ H1 { s1 with heap := s1.heap.push S.ob } := I1.kept (t' := s1.toks) fun b o e => Heap.get?_push_of_some _ e
    refine ⟨s1.heap.objs.size, [s1.heap.objs.size], _, _, H1, rfl, I2, S.turn _, Sc.iter_new (Heap.get?_push_size _ B.free), fun b hb => ?_, q⟩
    rw [List.mem_singleton.mp hb]
    exact I1.fpOk (Nat.le_refl _) (I1.hok.fresh (Nat.le_refl _))
  · subst ex
    obtain ⟨t, rfl⟩ := r1
    have B := begins_text z t
    refine B.iter X.prog X.w _ _ s1 _ trivial ?_
    have I2 : Inv X pins σ H1 { s1 with heap := s1.heap.push { cls := .type (strIterType z), data := .fields #[.str z t, .int 0 0] } } := I1.kept (t' := s1.toks) fun b o e => Heap.get?_push_of_some _ e
    refine ⟨s1.heap.objs.size, [s1.heap.objs.size], _, _, H1, rfl, I2, turn_str _ z t (strIterType z) (by unfold strIterType; split <;> simp), ⟨_, Heap.get?_push_size _ B.free, rfl, rfl⟩, fun b hb => ?_, q⟩
    rw [List.mem_singleton.mp hb]
    exact I1.fpOk (Nat.le_refl _) (I1.hok.fresh (Nat.le_refl _))
/-- the items of what is walked, and what must stand meanwhile -/
def chkOf (x : D) (ds : List D) : GH → Prop := match x with
  | .ref a => fun G => G a = some (.lst ds)
  | _ => fun _ => True
theorem chk_seq {x : D} {ds : List D} {G G' : GH} (h : SeqG G x ds) (c : chkOf x ds G') : SeqG G' x ds := by
  cases x with
  | ref a => exact c
  | tup es => exact h
  | rol es => exact h
  | _ => exact h.elim
theorem itOk_sc {K : PySem.W.Frag} {mg : Str → Option Value} {Hs : Hp} {G0 : GH} {S : Sc} {x : D} {ds : List D} {xs0 : List V} (hx : SeqG G0 x ds) (h0 : S.at K Hs xs0) (r0 : Reps K Hs ds xs0)
    (st : ∀ H' G' xs, Keep Hs H' → Sim K mg G' H' → SeqG G' x ds → S.at K Hs xs → Reps K Hs ds xs → ∃ ys, S.at K H' ys ∧ Reps K H' ds ys) : ItOk K mg Hs (S.it K) ds (chkOf x ds) where
  go := fun i H G k s c hi => by
    obtain ⟨ys, h1, r1⟩ := st H G xs0 k s (chk_seq hx c) h0 r0
    have hl := r1.length
    cases S with
    | l a => exact ⟨ys, ys[i]'(by omega), h1, by simp [hl, hi]⟩
    | t a => exact ⟨ys, ys[i]'(by omega), h1, by simp [hl, hi]⟩
  yld := fun i H G v H' d k s c hd hy => by
    obtain ⟨ys, h1, r1⟩ := st H G xs0 k s (chk_seq hx c) h0 r0
    obtain ⟨y, e1, e2⟩ := r1.get' hd
    cases S with
    | l a =>
      obtain ⟨rfl, hy⟩ := hy
      have := hy ys h1
      rw [e1] at this; cases this
      exact ⟨.refl s, e2⟩
    | t a =>
      obtain ⟨rfl, hy⟩ := hy
      have := hy ys h1
      rw [e1] at this; cases this
      exact ⟨.refl s, e2⟩
  stop := fun i H G k s c hi => by
    obtain ⟨ys, h1, r1⟩ := st H G xs0 k s (chk_seq hx c) h0 r0
    have hl := r1.length
    cases S with
    | l a => exact ⟨ys, h1, by omega⟩
    | t a => exact ⟨ys, h1, by omega⟩
theorem walk_cases {x : D} {G : GH} {Q : List D → (GH → Prop) → GH → Prop} (h : walkD x G Q) : (∃ ds, SeqG G x ds ∧ Q ds (chkOf x ds) G) ∨ ∃ z, x = .str z ∧ Q (signs z) (fun _ => True) G := by
  cases x with
  | tup ds => exact .inl ⟨ds, rfl, h⟩
  | rol ds => exact .inl ⟨ds, rfl, h⟩
  | ref a => obtain ⟨ds, e, h⟩ := h; exact .inl ⟨ds, e, h⟩
  | str z => exact .inr ⟨z, rfl, h⟩
  | _ => exact h.elim
theorem i_seq {iter : Expr} (he : PEd X H0 iter ta) : PId X H0 tg iter (diSeq ta) := PI.imp (pi_any he) fun σ H R ⟨G, δ, Q, s, h, q⟩ => ⟨G, δ, _, s, h, fun v H1 d G1 v1 r1 h1 => by
  rcases walk_cases h1 with ⟨ds, sq, h1⟩ | ⟨z, rfl, h1⟩
  · obtain ⟨S, rfl, ⟨xs, h0, r0⟩, st⟩ := seq_sc sq v1.sm r1
    exact .inl ⟨S, xs, rfl, h0, q _ H1 ds _ G1 v1 (itOk_sc sq h0 r0 st) h1⟩
  · rw [rep_str] at r1
    refine .inr ⟨z, r1, q _ H1 _ _ G1 v1 ⟨fun i H G k s c hi => ?_, fun i H G v H' d k s c hd hy => ?_, fun i H G k s c hi => ?_⟩ h1⟩
    · show i < z.cps.size
      simpa [signs] using hi
    · obtain ⟨rfl, c', e, rfl⟩ := hy
      refine ⟨.refl s, ?_⟩
      have e2 : d = .str ⟨#[c']⟩ := by
        unfold signs at hd
        rw [List.getElem?_map] at hd
        have : z.cps.toList[i]? = some c' := by simpa using e
        rw [this] at hd
        exact (Option.some.inj hd).symm
      rw [e2, rep_str]
    · show z.cps.size ≤ i
      simp [signs] at hi; omega⟩

def rangeD (lo : Int) (n : Nat) : List D := (List.range n).map fun k => D.int (lo + (k : Nat))
theorem itOk_range {K : PySem.W.Frag} {mg : Str → Option Value} {Hs : Hp} (lo : Int) (n : Nat) : ItOk K mg Hs (Itr lo n) (rangeD lo n) (fun _ => True) where
  go := fun i H G k s c hi => by
    show i < n
    simpa [rangeD] using hi
  yld := fun i H G v H' d k s c hd hy => by
    obtain ⟨rfl, rfl⟩ := hy
    refine ⟨.refl s, ?_⟩
    unfold rangeD at hd
    rw [List.getElem?_map] at hd
    by_cases hi : i < n
    · rw [List.getElem?_range hi] at hd
      have e := Option.some.inj hd
      subst e
      rw [rep_int]
    · rw [List.getElem?_eq_none (by simpa using hi)] at hd
      cases hd
  stop := fun i H G k s c hi => by
    show n ≤ i
    simp [rangeD] at hi
    omega
def diRng1 (ta : AD) : ID := fun δ G Q => ta δ G fun vs G1 => match vs with
  | [.int j] => (-(2 ^ 62) ≤ j ∧ j < 2 ^ 62) ∧ Q (rangeD 0 j.toNat) (fun _ => True) G1
  | _ => False
def diRng2 (ta : AD) : ID := fun δ G Q => ta δ G fun vs G1 => match vs with
  | [.int i, .int j] => (-(2 ^ 62) ≤ i ∧ i < 2 ^ 62 ∧ -(2 ^ 62) ≤ j ∧ j < 2 ^ 62) ∧ Q (rangeD i (j - i).toNat) (fun _ => True) G1
  | _ => False
theorem reps1 {K : PySem.W.Frag} {H : Hp} {d : D} {vs : List V} (r : Reps K H [d] vs) : ∃ v, vs = [v] ∧ Rep K H d v := by
  rw [Reps] at r
  obtain ⟨v, r', rfl, h1, h2⟩ := r
  rw [Reps] at h2
  subst h2
  exact ⟨v, rfl, h1⟩
theorem reps2 {K : PySem.W.Frag} {H : Hp} {d e : D} {vs : List V} (r : Reps K H [d, e] vs) : ∃ v w, vs = [v, w] ∧ Rep K H d v ∧ Rep K H e w := by
  rw [Reps] at r
  obtain ⟨v, r', rfl, h1, h2⟩ := r
  obtain ⟨w, rfl, h3⟩ := reps1 h2
  exact ⟨v, w, rfl, h1, h3⟩
theorem reps3 {K : PySem.W.Frag} {H : Hp} {d e f : D} {vs : List V} (r : Reps K H [d, e, f] vs) : ∃ v w u, vs = [v, w, u] ∧ Rep K H d v ∧ Rep K H e w ∧ Rep K H f u := by
  rw [Reps] at r
  obtain ⟨v, r', rfl, h1, h2⟩ := r
  obtain ⟨w, u, rfl, h3, h4⟩ := reps2 h2
  exact ⟨v, w, u, rfl, h1, h3, h4⟩
theorem i_rng1 {t : AD} (hm : X.mg "range" = none) (ha : PAd X H0 [a] t) (hg : Gl X "range" := by rfl) (hs : starEach [a] X.env = [(false, eval a X.env)] := by rfl) : PId X H0 tg (.Call (.Name "range" p) [a] [] pos) (diRng1 t) :=
  PI.imp (pi_range1 hg hm ha hs) fun σ H R ⟨G, δ, Q, s, h, q⟩ => ⟨G, δ, _, s, h, fun vs H1 ds G1 v1 r1 h1 => by
    revert h1
    split
    · rename_i j
      intro h1
      obtain ⟨v, rfl, r2⟩ := reps1 r1
      rw [rep_int] at r2
      subst r2
      exact ⟨j, rfl, h1.1.1, h1.1.2, q _ H1 _ _ G1 v1 (itOk_range 0 _) h1.2⟩
    · exact False.elim⟩
theorem i_rng2 {t : AD} (hm : X.mg "range" = none) (ha : PAd X H0 [a, b] t) (hg : Gl X "range" := by rfl) (hs : starEach [a, b] X.env = [(false, eval a X.env), (false, eval b X.env)] := by rfl) (hs2 : starEach [b] X.env = [(false, eval b X.env)] := by rfl) :
    PId X H0 tg (.Call (.Name "range" p) [a, b] [] pos) (diRng2 t) :=
  PI.imp (pi_range2 hg hm ha hs hs2) fun σ H R ⟨G, δ, Q, s, h, q⟩ => ⟨G, δ, _, s, h, fun vs H1 ds G1 v1 r1 h1 => by
    revert h1
    split
    · rename_i i j
      intro h1
      obtain ⟨v, w, rfl, r2, r3⟩ := reps2 r1
      rw [rep_int] at r2 r3
      subst r2; subst r3
      exact ⟨i, j, rfl, h1.1, q _ H1 _ _ G1 v1 (itOk_range i _) h1.2⟩
    · exact False.elim⟩
def enumD (k0 : Int) (ds : List D) : List D := ds.zipIdx.map fun x => D.tup [.int (k0 + (x.2 : Nat)), x.1]
theorem enumD_get {k0 : Int} {ds : List D} {i : Nat} {d : D} (h : (enumD k0 ds)[i]? = some d) : ∃ x, ds[i]? = some x ∧ d = .tup [.int (k0 + (i : Nat)), x] := by
  unfold enumD at h
  rw [List.getElem?_map, List.getElem?_zipIdx] at h
  cases e : ds[i]? with
  | none => rw [e] at h; cases h
  | some x =>
    rw [e] at h
    exact ⟨x, rfl, by simpa using (Option.some.inj h).symm⟩
def diEnum (ta : AD) : ID := fun δ G Q => ta δ G fun vs G1 => match vs with
  | [x] => ∃ ds, SeqG G1 x ds ∧ Q (enumD 0 ds) (chkOf x ds) G1
  | _ => False
theorem itOk_E {K : PySem.W.Frag} {mg : Str → Option Value} {Hs : Hp} {G0 : GH} {S : Sc} {x : D} {ds : List D} {xs0 : List V} {k0 : Int} (hx : SeqG G0 x ds) (h0 : S.at K Hs xs0) (r0 : Reps K Hs ds xs0)
    (st : ∀ H' G' xs, Keep Hs H' → Sim K mg G' H' → SeqG G' x ds → S.at K Hs xs → Reps K Hs ds xs → ∃ ys, S.at K H' ys ∧ Reps K H' ds ys) : ItOk K mg Hs (ItE K k0 S) (enumD k0 ds) (chkOf x ds) where
  go := fun i H G k s c hi => by
    obtain ⟨ys, h1, r1⟩ := st H G xs0 k s (chk_seq hx c) h0 r0
    have hl := r1.length
    have hi : i < ds.length := by simpa [enumD] using hi
    exact ⟨ys, ys[i]'(by omega), h1, by simp [hl, hi]⟩
  yld := fun i H G v H' d k s c hd hy => by
    obtain ⟨ys, h1, r1⟩ := st H G xs0 k s (chk_seq hx c) h0 r0
    obtain ⟨z, hz, rfl⟩ := enumD_get hd
    obtain ⟨y, e1, e2⟩ := r1.get' hz
    obtain ⟨T, u, rfl, hT, rfl, hu⟩ := hy
    have := hu ys h1
    rw [e1] at this
    cases this
    refine ⟨⟨.new hT, s.skip hT⟩, ?_⟩
    rw [rep_tup]
    exact ⟨T, _, rfl, SqT.of upd_same, .cons (by rw [rep_int]) (.one (Rep.keep (.new hT) _ _ e2))⟩
  stop := fun i H G k s c hi => by
    obtain ⟨ys, h1, r1⟩ := st H G xs0 k s (chk_seq hx c) h0 r0
    have hl := r1.length
    have hi : i = ds.length := by simpa [enumD] using hi
    exact ⟨ys, h1, by omega⟩
theorem i_enum {t : AD} {tpos : Pos} {elts : List Expr} {kk : Nat} (hm : X.mg "enumerate" = none) (ha : PAd X H0 [e] t) (hg : Gl X "enumerate" := by rfl) (hs : starEach [e] X.env = [(false, eval e X.env)] := by rfl) :
    PId X H0 (.Tuple elts kk tpos) (.Call (.Name "enumerate" p) [e] [] pos) (diEnum t) :=
  PI.imp (pi_E hg hm ha hs) fun σ H R ⟨G, δ, Q, s, h, q⟩ => ⟨G, δ, _, s, h, fun vs H1 ds G1 v1 r1 h1 => by
    revert h1
    split
    · rename_i x
      rintro ⟨ds, sq, h1⟩
      obtain ⟨v, rfl, r2⟩ := reps1 r1
      obtain ⟨S, rfl, ⟨xs, h0, r0⟩, st⟩ := seq_sc sq v1.sm r2
      exact ⟨S, xs, rfl, h0, q _ H1 _ _ G1 v1 (itOk_E sq h0 r0 st) h1⟩
    · exact False.elim⟩
end
end Q
set_option maxHeartbeats 4000000
/-! QF: zip walked -/
namespace Q
open PySem PySem.Spec PyProof.Rows L2
theorem Inv.turnedL {X : Cx} {pins : List (Addr × Obj)} {σ : L2.St} {H : Hp} {s : Shared} {h' : Heap} {t' : Nat} {ch : List Addr} (I : Inv X pins σ H s) (k : ∀ b o, b ∉ ch → s.heap.get? b = some o → h'.get? b = some o) (hf : ∀ b ∈ ch, FpOk X pins H b) :
    Inv X pins σ H { s with heap := h', toks := t' } := by
  have nit : ∀ b u, H b = some u → b ∉ ch := fun b u e z => by
    have q := (hf b z).1
    rw [q] at e
    cases e
  refine I.step (g' := s.gens) (d' := s.drawn) (ch := ch)
    (fun b hb => let ⟨_, q1, _, q3, q4, q5⟩ := hf b hb; ⟨q3, q1, q4, q5⟩)
    (fun b o _ _ hc e _ => k b o hc e)
    (fun b o _ _ hc e _ => ⟨o.slots, k b o hc e⟩) (fun b o _ e n => n) (fun b o hc e => ⟨o, k b o hc e⟩) (fun b xs e => e) (fun b o u e => e) (fun b ps e => ⟨#[], by rw [e]; simp⟩) (fun m hm => ?_) (fun b u e => ?_) I.bare
  · obtain ⟨o, es, ep, ho, r⟩ := hm
    exact ⟨o, es, ep, k _ o (fun z => absurd rfl (hf _ z).2.1) ho, r⟩
  · refine (I.hok b u e).stay (fun c v hc q => k c v ?_ q) (fun c q => q) fun c xs q => q
    rcases hc with z | z
    · rw [z]
      exact nit b u e
    · exact nit c _ z
section
variable {X : Cx} {H0 : Hp} {e a b c tg : Expr} {rest : List Expr} {pos p : Pos} {ta tb tc : ED}
theorem get_eq {its : List Value} {i : Nat} {u y : Value} (hu : its[i]? = some u) (hy : its.toArray[i]? = some y) : y = u := by
  have : its[i]? = some y := by simpa using hy
  rw [hu] at this
  exact (Option.some.inj this).symm
theorem lt_of_get {its : List Value} {i : Nat} {u : Value} (hu : its[i]? = some u) : i < its.toArray.size := by
  have := (List.getElem?_eq_some_iff.mp hu).1
  simpa using this
/-! two -/
def ItZ2 (K : PySem.W.Frag) (S1 S2 : Sc) : It :=
  ⟨fun i H => ∃ xs ys x y, S1.at K H xs ∧ S2.at K H ys ∧ xs[i]? = some x ∧ ys[i]? = some y,
    fun i H v H' => ∃ T x y, v = .ref T ∧ H T = none ∧ H' = upd H T (.tup [x, y]) ∧ (∀ xs, S1.at K H xs → xs[i]? = some x) ∧ ∀ ys, S2.at K H ys → ys[i]? = some y,
    fun i H => ∃ xs ys, S1.at K H xs ∧ S2.at K H ys ∧ min xs.length ys.length = i⟩
theorem turn_Z2 {P : Program} {w : World} {K : PySem.W.Frag} {elts : List Expr} {kk : Nat} {tpos : Pos} (S1 S2 : Sc) {z TI TO i1 i2 : Addr} (Z : ZipSep2 z TI TO i1 i2 [i1, S1.ad] [i2, S2.ad]) :
    Turn P w K (.Tuple elts kk tpos) (ItZ2 K S1 S2) [z, TI, TO, i1, i2] z
      (fun i h => IsZip h z TI TO .none ∧ IsTupOf2 h TI (.ref i1) (.ref i2) ∧ (∃ a1 a2, IsTupOf2 h TO a1 a2) ∧ S1.iter h i1 i ∧ S2.iter h i2 i) where
  mem := by simp
  obj := fun i h st b hb => by
    obtain ⟨h1, h2, ⟨_, _, h3⟩, h4, h5⟩ := st
    simp only [List.mem_cons, List.not_mem_nil, or_false] at hb
    rcases hb with rfl | rfl | rfl | rfl | rfl
    · exact ⟨_, h1, fun v q => nomatch q⟩
    · exact ⟨_, h2, fun v q => nomatch q⟩
    · exact ⟨_, h3, fun v q => nomatch q⟩
    · exact Sc.iter_obj (S := S1) h4
    · exact Sc.iter_obj (S := S2) h5
  keep := fun i h h' st k => let ⟨h1, h2, ⟨a1, a2, h3⟩, h4, h5⟩ := st
    ⟨k z (by simp) _ h1, k TI (by simp) _ h2, ⟨a1, a2, k TO (by simp) _ h3⟩, Sc.iter_at (S := S1) h4 fun o e => k i1 (by simp) o e, Sc.iter_at (S := S2) h5 fun o e => k i2 (by simp) o e⟩
  item := by
    intro X hP hw hK hc i pins s σ H E I hf st hg
    subst hP hw hK
    obtain ⟨h1, h2, h3, h4, h5⟩ := st
    obtain ⟨xs, ys, x, y, q1, q2, x1, x2⟩ := hg
    obtain ⟨its, rv, hh⟩ := Sc.get I q1
    obtain ⟨jts, rw', hk'⟩ := Sc.get I q2
    obtain ⟨u, hu, ru⟩ := rv.get x1
    obtain ⟨v, hv, rv'⟩ := rw'.get x2
    have D1 := Sc.draws (P := X.prog) (w := X.w) (A := X.A.in1) (I.ok.hd hc) S1 i1 (Sc.apart I q1 h4) its.toArray
    have D2 := Sc.draws (P := X.prog) (w := X.w) (A := X.A.in1) (I.ok.hd hc) S2 i2 (Sc.apart I q2 h5) jts.toArray
    have W := GoesN.zip2 (elts := elts) (x1 := kk) (pos := tpos) Z D1 D2
    refine W.goes i s _ E (Nat.lt_min.mpr ⟨lt_of_get hu, lt_of_get hv⟩) ⟨h1, h2, h3, ⟨h4, hh⟩, h5, hk'⟩ fun o h' tk hY st' hk _ => ?_
    obtain ⟨T, y1, y2, rfl, hT, e1, e2, tup⟩ := hY
    have e1 := get_eq hu e1
    have e2 := get_eq hv e2
    subst e1 e2
    have hf' : ∀ b ∈ [z, TO, i1, i2], FpOk X pins H b := fun b hb => hf b (by
      simp only [List.mem_cons, List.not_mem_nil, or_false] at hb ⊢
      rcases hb with r | r | r | r <;> simp [r])
    have I1 := I.turnedNew (ch := [z, TO, i1, i2]) (t' := tk) hk hf' hT (new_tup (P := X.prog) (w := X.w) (H := H) (xs := [x, y]) (us := [y1, y2]) (.cons ru (.cons rv' .nil)) (by show 2 ≤ 3; decide) tup)
    refine ⟨.ref T, _, I1, rfl, ⟨T, x, y, rfl, I.hok.fresh hT, rfl, fun zs hz => by rw [Sc.inj I hz q1]; exact x1, fun zs hz => by rw [Sc.inj I hz q2]; exact x2⟩, ⟨st'.1, st'.2.1, st'.2.2.1, st'.2.2.2.1.1, st'.2.2.2.2.1⟩, fun b hb => ?_⟩
    have hbl : b < s.heap.objs.size := by
      simp only [List.mem_cons, List.not_mem_nil, or_false] at hb
      rcases hb with r | r | r | r | r
      · rw [r]; exact Heap.lt_size h1
      · rw [r]; exact Heap.lt_size h2
      · rw [r]; obtain ⟨_, _, h3⟩ := h3; exact Heap.lt_size h3
      · rw [r]; obtain ⟨o, g, _⟩ := Sc.iter_obj (S := S1) h4; exact Heap.lt_size g
      · rw [r]; obtain ⟨o, g, _⟩ := Sc.iter_obj (S := S2) h5; exact Heap.lt_size g
    rw [upd_ne (Nat.ne_of_lt (Nat.lt_of_lt_of_le hbl hT))]
    exact (hf b hb).1
  done := by
    intro X hP hw hK hc i pins s σ H E I hf st hg
    subst hP hw hK
    obtain ⟨h1, h2, h3, h4, h5⟩ := st
    obtain ⟨xs, ys, q1, q2, hx⟩ := hg
    obtain ⟨its, rv, hh⟩ := Sc.get I q1
    obtain ⟨jts, rw', hk'⟩ := Sc.get I q2
    have l1 := rv.length
    have l2 := rw'.length
    have D1 := Sc.draws (P := X.prog) (w := X.w) (A := X.A.in1) (I.ok.hd hc) S1 i1 (Sc.apart I q1 h4) its.toArray
    have D2 := Sc.draws (P := X.prog) (w := X.w) (A := X.A.in1) (I.ok.hd hc) S2 i2 (Sc.apart I q2 h5) jts.toArray
    have W := GoesN.zip2 (elts := elts) (x1 := kk) (pos := tpos) Z D1 D2
    have hf' : ∀ b ∈ [z, TO, i1, i2], FpOk X pins H b := fun b hb => hf b (by
      simp only [List.mem_cons, List.not_mem_nil, or_false] at hb ⊢
      rcases hb with r | r | r | r <;> simp [r])
    have en : min its.toArray.size jts.toArray.size = i := by simp only [List.size_toArray, ← l1, ← l2]; exact hx
    exact W.stops s _ E (by rw [en]; exact ⟨h1, h2, h3, ⟨h4, hh⟩, h5, hk'⟩) fun h' tk hk _ => Inv.turnedL I hk hf'
  self := fun A i s Q E st h => wpAny_pyIter_zip st.1 h
theorem Sc.lt {S : Sc} {h : Heap} {its : Array Value} (x : S.has h its) : S.ad < h.objs.size := by
  cases S with
  | l a => obtain ⟨o, e, _⟩ := x; exact Heap.lt_size e
  | t a => obtain ⟨o, e, _⟩ := x; exact Heap.lt_size e
def iZ2 (K : PySem.W.Frag) (ta : TA) : TI := fun σ H R => ta σ H fun vs H1 => ∃ S1 S2 xs ys, vs = [.ref (Sc.ad S1), .ref (Sc.ad S2)] ∧ S1.at K H1 xs ∧ S2.at K H1 ys ∧ R (ItZ2 K S1 S2) H1
theorem pi_Z2 {ta : TA} {tpos : Pos} {elts : List Expr} {kk : Nat} (hg : Gl X "zip") (hm : X.mg "zip" = none) (ha : PA X [a, b] ta) (hs : starEach [a, b] X.env = (false, eval a X.env) :: starEach [b] X.env := by rfl) (hpl : (backTo pos (starEach [b] X.env)).any (·.1) = false := by rfl) :
    PI X (.Tuple elts kk tpos) (.Call (.Name "zip" p) [a, b] [] pos) (iZ2 X.K ta) := by
  refine ⟨fun pins s σ H R I h => ?_⟩
  refine Call_ (ld_blt I hg hm PyProof.Rows.boot_zip (PyProof.Rows.callWith_type1 (thn (ha.run pos pins s σ H _ I h) fun us s1 ⟨vs, H1, I1, r1, S1, S2, xs, ys, ex, q1, q2, q⟩ => ?_) hs hpl))
  subst ex
  obtain ⟨u1, u2, rfl, r1, r2⟩ := vals2 r1
  cases r1
  cases r2
  obtain ⟨its, rv, hh⟩ := Sc.get I1 q1
  obtain ⟨jts, rw', hk'⟩ := Sc.get I1 q2
  refine zip_begins2 (S1.begins its.toArray) (S2.begins jts.toArray) hh hk' fun h' z1 z2 z3 g1 g2 hsz hk => wpAny_pyIter_zip z1 ?_
  have I2 : Inv X pins σ H1 { s1 with heap := h' } := I1.kept (t' := s1.toks) hk
  have hl1 := Sc.lt hh
  have hl2 := Sc.lt hk'
  have Z := zip_sep2 (N := s1.heap.objs.size) (fp1 := [S1.ad]) (fp2 := [S2.ad]) (fun b hb => by rw [List.mem_singleton.mp hb]; exact hl1) (fun b hb => by rw [List.mem_singleton.mp hb]; exact hl2)
  refine ⟨_, [s1.heap.objs.size + 4, s1.heap.objs.size + 2, s1.heap.objs.size + 3, s1.heap.objs.size, s1.heap.objs.size + 1], _, _, H1, rfl, I2, turn_Z2 S1 S2 Z, ⟨z1, z2, ⟨_, _, z3⟩, Sc.iter_new g1, Sc.iter_new g2⟩, fun b hb => ?_, q⟩
  have hle : s1.heap.objs.size ≤ b := by
    simp only [List.mem_cons, List.not_mem_nil, or_false] at hb
    rcases hb with r | r | r | r | r <;> rw [r] <;> first | exact Nat.le_refl _ | exact Nat.le_add_right _ _
  exact I1.fpOk hle (I1.hok.fresh hle)
def zipD2 (xs ys : List D) : List D := List.zipWith (fun x y => D.tup [x, y]) xs ys
theorem zipD2_get {xs ys : List D} {i : Nat} {d : D} (h : (zipD2 xs ys)[i]? = some d) : ∃ x y, xs[i]? = some x ∧ ys[i]? = some y ∧ d = .tup [x, y] := by
  unfold zipD2 at h
  rw [List.getElem?_zipWith] at h
  cases e1 : xs[i]? with
  | none => rw [e1] at h; simp at h
  | some x =>
    cases e2 : ys[i]? with
    | none => rw [e1, e2] at h; simp at h
    | some y =>
      rw [e1, e2] at h
      exact ⟨x, y, rfl, rfl, by simpa using h.symm⟩
def diZip2 (ta : AD) : ID := fun δ G Q => ta δ G fun vs G1 => match vs with
  | [x, y] => ∃ ds es, SeqG G1 x ds ∧ SeqG G1 y es ∧ Q (zipD2 ds es) (fun G' => chkOf x ds G' ∧ chkOf y es G') G1
  | _ => False
theorem i_zip2 {t : AD} {tpos : Pos} {elts : List Expr} {kk : Nat} (hm : X.mg "zip" = none) (ha : PAd X H0 [a, b] t) (hg : Gl X "zip" := by rfl) (hs : starEach [a, b] X.env = (false, eval a X.env) :: starEach [b] X.env := by rfl) (hpl : (backTo pos (starEach [b] X.env)).any (·.1) = false := by rfl) :
    PId X H0 (.Tuple elts kk tpos) (.Call (.Name "zip" p) [a, b] [] pos) (diZip2 t) :=
  PI.imp (pi_Z2 hg hm ha hs hpl) fun σ H R ⟨G, δ, Q, s, h, q⟩ => ⟨G, δ, _, s, h, fun vs H1 dvs G1 v1 r1 h1 => by
    revert h1
    split
    · rename_i dx dy
      rintro ⟨ds, es, sx, sy, h1⟩
      obtain ⟨v, v', rfl, r2, r3⟩ := reps2 r1
      obtain ⟨S1, rfl, ⟨xs, hx0, rx0⟩, stx⟩ := seq_sc sx v1.sm r2
      obtain ⟨S2, rfl, ⟨ys, hy0, ry0⟩, sty⟩ := seq_sc sy v1.sm r3
      refine ⟨S1, S2, xs, ys, rfl, hx0, hy0, q _ H1 _ _ G1 v1 ⟨fun i H G k s c hi => ?_, fun i H G v H' d k s c hd hy => ?_, fun i H G k s c hi => ?_⟩ h1⟩
      · obtain ⟨us, h3, r3⟩ := stx H G xs k s (chk_seq sx c.1) hx0 rx0
        obtain ⟨ws, h4, r4⟩ := sty H G ys k s (chk_seq sy c.2) hy0 ry0
        have l3 := r3.length
        have l4 := r4.length
        have hi : i < min ds.length es.length := by simpa [zipD2] using hi
        exact ⟨us, ws, us[i]'(by omega), ws[i]'(by omega), h3, h4, by simp, by simp⟩
      · obtain ⟨us, h3, r3⟩ := stx H G xs k s (chk_seq sx c.1) hx0 rx0
        obtain ⟨ws, h4, r4⟩ := sty H G ys k s (chk_seq sy c.2) hy0 ry0
        obtain ⟨x, y, e1, e2, rfl⟩ := zipD2_get hd
        obtain ⟨v1', f1, g1⟩ := r3.get' e1
        obtain ⟨v2', f2, g2⟩ := r4.get' e2
        obtain ⟨T, x', y', rfl, hT, rfl, hx, hy⟩ := hy
        have j1 := hx us h3
        have j2 := hy ws h4
        rw [f1] at j1
        rw [f2] at j2
        cases j1
        cases j2
        refine ⟨⟨.new hT, s.skip hT⟩, ?_⟩
        rw [rep_tup]
        exact ⟨T, _, rfl, SqT.of upd_same, .cons (Rep.keep (.new hT) _ _ g1) (.one (Rep.keep (.new hT) _ _ g2))⟩
      · obtain ⟨us, h3, r3⟩ := stx H G xs k s (chk_seq sx c.1) hx0 rx0
        obtain ⟨ws, h4, r4⟩ := sty H G ys k s (chk_seq sy c.2) hy0 ry0
        have l3 := r3.length
        have l4 := r4.length
        have hi : i = min ds.length es.length := by simpa [zipD2] using hi
        exact ⟨us, ws, h3, h4, by omega⟩
    · exact False.elim⟩
/-! three -/
def ItZ3 (K : PySem.W.Frag) (S1 S2 S3 : Sc) : It :=
  ⟨fun i H => ∃ xs ys zs x y z, S1.at K H xs ∧ S2.at K H ys ∧ S3.at K H zs ∧ xs[i]? = some x ∧ ys[i]? = some y ∧ zs[i]? = some z,
    fun i H v H' => ∃ T x y z, v = .ref T ∧ H T = none ∧ H' = upd H T (.tup [x, y, z]) ∧ (∀ xs, S1.at K H xs → xs[i]? = some x) ∧ (∀ ys, S2.at K H ys → ys[i]? = some y) ∧ ∀ zs, S3.at K H zs → zs[i]? = some z,
    fun i H => ∃ xs ys zs, S1.at K H xs ∧ S2.at K H ys ∧ S3.at K H zs ∧ min (min xs.length ys.length) zs.length = i⟩
theorem turn_Z3 {P : Program} {w : World} {K : PySem.W.Frag} {elts : List Expr} {kk : Nat} {tpos : Pos} (S1 S2 S3 : Sc) {z TI TO i1 i2 i3 : Addr} (Z : ZipSep3 z TI TO i1 i2 i3 [i1, S1.ad] [i2, S2.ad] [i3, S3.ad]) :
    Turn P w K (.Tuple elts kk tpos) (ItZ3 K S1 S2 S3) [z, TI, TO, i1, i2, i3] z
      (fun i h => IsZip h z TI TO .none ∧ IsTupOf3 h TI (.ref i1) (.ref i2) (.ref i3) ∧ (∃ a1 a2 a3, IsTupOf3 h TO a1 a2 a3) ∧ S1.iter h i1 i ∧ S2.iter h i2 i ∧ S3.iter h i3 i) where
  mem := by simp
  obj := fun i h st b hb => by
    obtain ⟨h1, h2, ⟨_, _, _, h3⟩, h4, h5, h6⟩ := st
    simp only [List.mem_cons, List.not_mem_nil, or_false] at hb
    rcases hb with rfl | rfl | rfl | rfl | rfl | rfl
    · exact ⟨_, h1, fun v q => nomatch q⟩
    · exact ⟨_, h2, fun v q => nomatch q⟩
    · exact ⟨_, h3, fun v q => nomatch q⟩
    · exact Sc.iter_obj (S := S1) h4
    · exact Sc.iter_obj (S := S2) h5
    · exact Sc.iter_obj (S := S3) h6
  keep := fun i h h' st k => let ⟨h1, h2, ⟨a1, a2, a3, h3⟩, h4, h5, h6⟩ := st
    ⟨k z (by simp) _ h1, k TI (by simp) _ h2, ⟨a1, a2, a3, k TO (by simp) _ h3⟩, Sc.iter_at (S := S1) h4 fun o e => k i1 (by simp) o e, Sc.iter_at (S := S2) h5 fun o e => k i2 (by simp) o e, Sc.iter_at (S := S3) h6 fun o e => k i3 (by simp) o e⟩
  item := by
    intro X hP hw hK hc i pins s σ H E I hf st hg
    subst hP hw hK
    obtain ⟨h1, h2, h3, h4, h5, h6⟩ := st
    obtain ⟨xs, ys, zs, x, y, z', q1, q2, q3, x1, x2, x3⟩ := hg
    obtain ⟨its, rv, hh⟩ := Sc.get I q1
    obtain ⟨jts, rw', hk'⟩ := Sc.get I q2
    obtain ⟨kts, ru', hl'⟩ := Sc.get I q3
    obtain ⟨u, hu, ru⟩ := rv.get x1
    obtain ⟨v, hv, rv'⟩ := rw'.get x2
    obtain ⟨v3, hv3, rv3⟩ := ru'.get x3
    have D1 := Sc.draws (P := X.prog) (w := X.w) (A := X.A.in1) (I.ok.hd hc) S1 i1 (Sc.apart I q1 h4) its.toArray
    have D2 := Sc.draws (P := X.prog) (w := X.w) (A := X.A.in1) (I.ok.hd hc) S2 i2 (Sc.apart I q2 h5) jts.toArray
    have D3 := Sc.draws (P := X.prog) (w := X.w) (A := X.A.in1) (I.ok.hd hc) S3 i3 (Sc.apart I q3 h6) kts.toArray
    have W := GoesN.zip3 (elts := elts) (x1 := kk) (pos := tpos) Z D1 D2 D3
    refine W.goes i s _ E (Nat.lt_min.mpr ⟨Nat.lt_min.mpr ⟨lt_of_get hu, lt_of_get hv⟩, lt_of_get hv3⟩) ⟨h1, h2, h3, ⟨h4, hh⟩, ⟨h5, hk'⟩, h6, hl'⟩ fun o h' tk hY st' hk _ => ?_
    obtain ⟨T, y1, y2, y3, rfl, hT, e1, e2, e3, tup⟩ := hY
    have e1 := get_eq hu e1
    have e2 := get_eq hv e2
    have e3 := get_eq hv3 e3
    subst e1 e2 e3
    have hf' : ∀ b ∈ [z, TO, i1, i2, i3], FpOk X pins H b := fun b hb => hf b (by
      simp only [List.mem_cons, List.not_mem_nil, or_false] at hb ⊢
      rcases hb with r | r | r | r | r <;> simp [r])
    have I1 := I.turnedNew (ch := [z, TO, i1, i2, i3]) (t' := tk) hk hf' hT (new_tup (P := X.prog) (w := X.w) (H := H) (xs := [x, y, z']) (us := [y1, y2, y3]) (.cons ru (.cons rv' (.cons rv3 .nil))) (by show 3 ≤ 3; decide) tup)
    refine ⟨.ref T, _, I1, rfl, ⟨T, x, y, z', rfl, I.hok.fresh hT, rfl, fun zs hz => by rw [Sc.inj I hz q1]; exact x1, fun zs hz => by rw [Sc.inj I hz q2]; exact x2, fun zs hz => by rw [Sc.inj I hz q3]; exact x3⟩, ⟨st'.1, st'.2.1, st'.2.2.1, st'.2.2.2.1.1, st'.2.2.2.2.1.1, st'.2.2.2.2.2.1⟩, fun b hb => ?_⟩
    have hbl : b < s.heap.objs.size := by
      simp only [List.mem_cons, List.not_mem_nil, or_false] at hb
      rcases hb with r | r | r | r | r | r
      · rw [r]; exact Heap.lt_size h1
      · rw [r]; exact Heap.lt_size h2
      · rw [r]; obtain ⟨_, _, _, h3⟩ := h3; exact Heap.lt_size h3
      · rw [r]; obtain ⟨o, g, _⟩ := Sc.iter_obj (S := S1) h4; exact Heap.lt_size g
      · rw [r]; obtain ⟨o, g, _⟩ := Sc.iter_obj (S := S2) h5; exact Heap.lt_size g
      · rw [r]; obtain ⟨o, g, _⟩ := Sc.iter_obj (S := S3) h6; exact Heap.lt_size g
    rw [upd_ne (Nat.ne_of_lt (Nat.lt_of_lt_of_le hbl hT))]
    exact (hf b hb).1
  done := by
    intro X hP hw hK hc i pins s σ H E I hf st hg
    subst hP hw hK
    obtain ⟨h1, h2, h3, h4, h5, h6⟩ := st
    obtain ⟨xs, ys, zs, q1, q2, q3, hx⟩ := hg
    obtain ⟨its, rv, hh⟩ := Sc.get I q1
    obtain ⟨jts, rw', hk'⟩ := Sc.get I q2
    obtain ⟨kts, ru', hl'⟩ := Sc.get I q3
    have l1 := rv.length
    have l2 := rw'.length
    have l3 := ru'.length
    have D1 := Sc.draws (P := X.prog) (w := X.w) (A := X.A.in1) (I.ok.hd hc) S1 i1 (Sc.apart I q1 h4) its.toArray
    have D2 := Sc.draws (P := X.prog) (w := X.w) (A := X.A.in1) (I.ok.hd hc) S2 i2 (Sc.apart I q2 h5) jts.toArray
    have D3 := Sc.draws (P := X.prog) (w := X.w) (A := X.A.in1) (I.ok.hd hc) S3 i3 (Sc.apart I q3 h6) kts.toArray
    have W := GoesN.zip3 (elts := elts) (x1 := kk) (pos := tpos) Z D1 D2 D3
    have hf' : ∀ b ∈ [z, TO, i1, i2, i3], FpOk X pins H b := fun b hb => hf b (by
      simp only [List.mem_cons, List.not_mem_nil, or_false] at hb ⊢
      rcases hb with r | r | r | r | r <;> simp [r])
    have en : min (min its.toArray.size jts.toArray.size) kts.toArray.size = i := by simp only [List.size_toArray, ← l1, ← l2, ← l3]; exact hx
    exact W.stops s _ E (by rw [en]; exact ⟨h1, h2, h3, ⟨h4, hh⟩, ⟨h5, hk'⟩, h6, hl'⟩) fun h' tk hk _ => Inv.turnedL I hk hf'
  self := fun A i s Q E st h => wpAny_pyIter_zip st.1 h
theorem vals3 {x y z : V} {us : List Value} (r : Vals [x, y, z] us) : ∃ u v w, us = [u, v, w] ∧ RelV x u ∧ RelV y v ∧ RelV z w := by
  cases r with
  | cons r rr =>
    obtain ⟨u, v, rfl, h1, h2⟩ := vals2 rr
    exact ⟨_, u, v, rfl, r, h1, h2⟩
def iZ3 (K : PySem.W.Frag) (ta : TA) : TI := fun σ H R => ta σ H fun vs H1 => ∃ S1 S2 S3 xs ys zs, vs = [.ref (Sc.ad S1), .ref (Sc.ad S2), .ref (Sc.ad S3)] ∧ S1.at K H1 xs ∧ S2.at K H1 ys ∧ S3.at K H1 zs ∧ R (ItZ3 K S1 S2 S3) H1
theorem pi_Z3 {ta : TA} {tpos : Pos} {elts : List Expr} {kk : Nat} (hg : Gl X "zip") (hm : X.mg "zip" = none) (ha : PA X [a, b, c] ta) (hs : starEach [a, b, c] X.env = (false, eval a X.env) :: starEach [b, c] X.env := by rfl) (hpl : (backTo pos (starEach [b, c] X.env)).any (·.1) = false := by rfl) :
    PI X (.Tuple elts kk tpos) (.Call (.Name "zip" p) [a, b, c] [] pos) (iZ3 X.K ta) := by
  refine ⟨fun pins s σ H R I h => ?_⟩
  refine Call_ (ld_blt I hg hm PyProof.Rows.boot_zip (PyProof.Rows.callWith_type1 (thn (ha.run pos pins s σ H _ I h) fun us s1 ⟨vs, H1, I1, r1, S1, S2, S3, xs, ys, zs, ex, q1, q2, q3, q⟩ => ?_) hs hpl))
  subst ex
  obtain ⟨u1, u2, u3, rfl, r1, r2, r3⟩ := vals3 r1
  cases r1
  cases r2
  cases r3
  obtain ⟨its, rv, hh⟩ := Sc.get I1 q1
  obtain ⟨jts, rw', hk'⟩ := Sc.get I1 q2
  obtain ⟨kts, ru', hl'⟩ := Sc.get I1 q3
  refine zip_begins3 (S1.begins its.toArray) (S2.begins jts.toArray) (S3.begins kts.toArray) hh hk' hl' fun h' z1 z2 z3 g1 g2 g3 hsz hk => wpAny_pyIter_zip z1 ?_
  have I2 : Inv X pins σ H1 { s1 with heap := h' } := I1.kept (t' := s1.toks) hk
  have hl1 := Sc.lt hh
  have hl2 := Sc.lt hk'
  have hl3 := Sc.lt hl'
  have Z := zip_sep3 (N := s1.heap.objs.size) (fp1 := [S1.ad]) (fp2 := [S2.ad]) (fp3 := [S3.ad]) (fun b hb => by rw [List.mem_singleton.mp hb]; exact hl1) (fun b hb => by rw [List.mem_singleton.mp hb]; exact hl2) (fun b hb => by rw [List.mem_singleton.mp hb]; exact hl3)
  refine ⟨_, [s1.heap.objs.size + 5, s1.heap.objs.size + 3, s1.heap.objs.size + 4, s1.heap.objs.size, s1.heap.objs.size + 1, s1.heap.objs.size + 2], _, _, H1, rfl, I2, turn_Z3 S1 S2 S3 Z, ⟨z1, z2, ⟨_, _, _, z3⟩, Sc.iter_new g1, Sc.iter_new g2, Sc.iter_new g3⟩, fun b hb => ?_, q⟩
  have hle : s1.heap.objs.size ≤ b := by
    simp only [List.mem_cons, List.not_mem_nil, or_false] at hb
    rcases hb with r | r | r | r | r | r <;> rw [r] <;> first | exact Nat.le_refl _ | exact Nat.le_add_right _ _
  exact I1.fpOk hle (I1.hok.fresh hle)
def zipD3 : List D → List D → List D → List D
  | x :: xs, y :: ys, z :: zs => .tup [x, y, z] :: zipD3 xs ys zs
  | _, _, _ => []
theorem zipD3_get : ∀ {xs ys zs : List D} {i : Nat} {d : D}, (zipD3 xs ys zs)[i]? = some d → ∃ x y z, xs[i]? = some x ∧ ys[i]? = some y ∧ zs[i]? = some z ∧ d = .tup [x, y, z]
  | x :: xs, y :: ys, z :: zs, 0, d, h => ⟨x, y, z, rfl, rfl, rfl, by simpa [zipD3] using h.symm⟩
  | x :: xs, y :: ys, z :: zs, i + 1, d, h => by simpa using zipD3_get (i := i) (by simpa [zipD3] using h)
  | [], _, _, i, d, h => by simp [zipD3] at h
  | _ :: _, [], _, i, d, h => by simp [zipD3] at h
  | _ :: _, _ :: _, [], i, d, h => by simp [zipD3] at h
theorem zipD3_len : ∀ {xs ys zs : List D}, (zipD3 xs ys zs).length = min (min xs.length ys.length) zs.length
  | x :: xs, y :: ys, z :: zs => by simp only [zipD3, List.length_cons, zipD3_len (xs := xs)]; omega
  | [], _, _ => by simp [zipD3]
  | _ :: _, [], _ => by simp [zipD3]
  | _ :: _, _ :: _, [] => by simp [zipD3]
def diZip3 (ta : AD) : ID := fun δ G Q => ta δ G fun vs G1 => match vs with
  | [x, y, z] => ∃ ds es fs, SeqG G1 x ds ∧ SeqG G1 y es ∧ SeqG G1 z fs ∧ Q (zipD3 ds es fs) (fun G' => chkOf x ds G' ∧ chkOf y es G' ∧ chkOf z fs G') G1
  | _ => False
theorem i_zip3 {t : AD} {tpos : Pos} {elts : List Expr} {kk : Nat} (hm : X.mg "zip" = none) (ha : PAd X H0 [a, b, c] t) (hg : Gl X "zip" := by rfl) (hs : starEach [a, b, c] X.env = (false, eval a X.env) :: starEach [b, c] X.env := by rfl) (hpl : (backTo pos (starEach [b, c] X.env)).any (·.1) = false := by rfl) :
    PId X H0 (.Tuple elts kk tpos) (.Call (.Name "zip" p) [a, b, c] [] pos) (diZip3 t) :=
  PI.imp (pi_Z3 hg hm ha hs hpl) fun σ H R ⟨G, δ, Q, s, h, q⟩ => ⟨G, δ, _, s, h, fun vs H1 dvs G1 v1 r1 h1 => by
    revert h1
    split
    · rename_i dx dy dz
      rintro ⟨ds, es, fs, sx, sy, sz, h1⟩
      obtain ⟨v, v', v'', rfl, r2, r3, r4⟩ := reps3 r1
      obtain ⟨S1, rfl, ⟨xs, hx0, rx0⟩, stx⟩ := seq_sc sx v1.sm r2
      obtain ⟨S2, rfl, ⟨ys, hy0, ry0⟩, sty⟩ := seq_sc sy v1.sm r3
      obtain ⟨S3, rfl, ⟨zs, hz0, rz0⟩, stz⟩ := seq_sc sz v1.sm r4
      refine ⟨S1, S2, S3, xs, ys, zs, rfl, hx0, hy0, hz0, q _ H1 _ _ G1 v1 ⟨fun i H G k s c hi => ?_, fun i H G v H' d k s c hd hy => ?_, fun i H G k s c hi => ?_⟩ h1⟩
      · obtain ⟨us, h3, r3⟩ := stx H G xs k s (chk_seq sx c.1) hx0 rx0
        obtain ⟨ws, h4, r4⟩ := sty H G ys k s (chk_seq sy c.2.1) hy0 ry0
        obtain ⟨xs', h5, r5⟩ := stz H G zs k s (chk_seq sz c.2.2) hz0 rz0
        have l3 := r3.length
        have l4 := r4.length
        have l5 := r5.length
        rw [zipD3_len] at hi
        exact ⟨us, ws, xs', us[i]'(by omega), ws[i]'(by omega), xs'[i]'(by omega), h3, h4, h5, by simp, by simp, by simp⟩
      · obtain ⟨us, h3, r3⟩ := stx H G xs k s (chk_seq sx c.1) hx0 rx0
        obtain ⟨ws, h4, r4⟩ := sty H G ys k s (chk_seq sy c.2.1) hy0 ry0
        obtain ⟨xs', h5, r5⟩ := stz H G zs k s (chk_seq sz c.2.2) hz0 rz0
        obtain ⟨x, y, z, e1, e2, e3, rfl⟩ := zipD3_get hd
        obtain ⟨v1', f1, g1⟩ := r3.get' e1
        obtain ⟨v2', f2, g2⟩ := r4.get' e2
        obtain ⟨v3', f3, g3⟩ := r5.get' e3
        obtain ⟨T, x', y', z', rfl, hT, rfl, hx, hy, hz⟩ := hy
        have j1 := hx us h3
        have j2 := hy ws h4
        have j3 := hz xs' h5
        rw [f1] at j1
        rw [f2] at j2
        rw [f3] at j3
        cases j1
        cases j2
        cases j3
        refine ⟨⟨.new hT, s.skip hT⟩, ?_⟩
        rw [rep_tup]
        exact ⟨T, _, rfl, SqT.of upd_same, .cons (Rep.keep (.new hT) _ _ g1) (.cons (Rep.keep (.new hT) _ _ g2) (.one (Rep.keep (.new hT) _ _ g3)))⟩
      · obtain ⟨us, h3, r3⟩ := stx H G xs k s (chk_seq sx c.1) hx0 rx0
        obtain ⟨ws, h4, r4⟩ := sty H G ys k s (chk_seq sy c.2.1) hy0 ry0
        obtain ⟨xs', h5, r5⟩ := stz H G zs k s (chk_seq sz c.2.2) hz0 rz0
        have l3 := r3.length
        have l4 := r4.length
        have l5 := r5.length
        rw [zipD3_len] at hi
        exact ⟨us, ws, xs', h3, h4, h5, by omega⟩
    · exact False.elim⟩
end
end Q
set_option maxHeartbeats 4000000
/-! QG: calls of built-ins -/
namespace Q
open PySem PySem.Spec PyProof.Rows L2
section
variable {X : Cx} {H0 : Hp} {e a b c tg : Expr} {es rest : List Expr} {pos p : Pos} {ta tb tc : ED} {x : Str} {t : AD}
abbrev CRD := List D → GH → QK → Prop
def CallD (X : Cx) (f : Value) (rd : CRD) : Prop := ∃ r, CallR X f r ∧ ∀ H G vs ds Q R, Sim X.K X.mg G H → Reps X.K H ds vs → rd ds G Q →
  (∀ v H' d G', VOk X.K X.mg H H' G' → Rep X.K H' d v → Q d G' → R v H') → r vs H R
def dCB (r : CRD) (t : AD) : ED := fun δ G Q => t δ G fun vs G1 => r vs G1 Q
theorem star_cb {r : List V → Hp → VK → Prop} {rd : CRD} (h2 : ∀ H G vs ds Q R, Sim X.K X.mg G H → Reps X.K H ds vs → rd ds G Q → (∀ v H' d G', VOk X.K X.mg H H' G' → Rep X.K H' d v → Q d G' → R v H') → r vs H R)
    {σ : L2.St} {H : Hp} {R : VK} (h : star X.K X.mg H0 (dCB rd t) σ H R) : tCB r (starA X.K X.mg H0 t) σ H R := by
  obtain ⟨G, δ, Q, s, h, q⟩ := h
  exact ⟨G, δ, _, s, h, fun vs H1 ds G1 v1 r1 h1 => h2 H1 G1 vs ds Q R v1.sm r1 h1 fun v H' d G' v2 => q v H' d G' (v1.trans v2)⟩
theorem d_callB {id : String} {rd : CRD} (hc : CallD X (.builtin id) rd) (hm : X.mg x = none) (hv : bootBuiltins x = some (.builtin id)) (ha : PAd X H0 (e :: es) t) (hg : Gl X x := by rfl) (hn : x ≠ "__name__" := by decide) (hdb : (x == ("__debug__" : Str)) = false := by decide)
    (he : starEach (e :: es) X.env = (false, eval e X.env) :: starEach es X.env := by rfl) (hpl : (backTo pos (starEach es X.env)).any (·.1) = false := by rfl) : PEd X H0 (.Call (.Name x p) (e :: es) [] pos) (dCB rd t) := by
  obtain ⟨r, h1, h2⟩ := hc
  exact PE.imp (pe_callB h1 hg hm hv ha hn hdb he hpl) fun σ H R h => star_cb h2 h
theorem d_callTy {T : String} {rd : CRD} (hc : CallD X (.type T) rd) (hm : X.mg x = none) (hv : bootBuiltins x = some (.type T)) (ha : PAd X H0 (e :: es) t) (hg : Gl X x := by rfl) (hn : x ≠ "__name__" := by decide) (hdb : (x == ("__debug__" : Str)) = false := by decide)
    (he : starEach (e :: es) X.env = (false, eval e X.env) :: starEach es X.env := by rfl) (hpl : (backTo pos (starEach es X.env)).any (·.1) = false := by rfl) : PEd X H0 (.Call (.Name x p) (e :: es) [] pos) (dCB rd t) := by
  obtain ⟨r, h1, h2⟩ := hc
  exact PE.imp (pe_callTy h1 hg hm hv ha hn hdb he hpl) fun σ H R h => star_cb h2 h
/-- a built-in class as a value -/
theorem d_ty {T : String} (hm : X.mg x = none) (hv : bootBuiltins x = some (.type T)) (hg : Gl X x := by rfl) (hn : x ≠ "__name__" := by decide) (hd : (x == ("__debug__" : Str)) = false := by decide) : PEd X H0 (.Name x pos) (dC (.ty T)) :=
  d_c (pe_bltn (v := .ty T) hg hm hv rfl hn hd) fun H => by rw [Rep]

/-! ints -/
def absD : CRD := fun vs G Q => match vs with | [.int i] => Q (.int (if i < 0 then -i else i)) G | _ => False
theorem c_abs : CallD X (.builtin "abs") absD := ⟨_, call_abs, fun H G vs ds Q R s r h k => by
  unfold absD at h
  split at h
  · obtain ⟨v, rfl, r1⟩ := reps1 r
    rw [rep_int] at r1
    exact ⟨_, by rw [r1], k _ H _ G (.refl s) (by rw [Rep]) h⟩
  · exact h.elim⟩
def maxD : CRD := fun vs G Q => match vs with | [.int i, .int j] => Q (.int (if j > i then j else i)) G | _ => False
def minD : CRD := fun vs G Q => match vs with | [.int i, .int j] => Q (.int (if j < i then j else i)) G | _ => False
theorem c_max (hc : X.calm = true) : CallD X (.builtin "max") maxD := ⟨_, call_max2 hc, fun H G vs ds Q R s r h k => by
  unfold maxD at h
  split at h
  · obtain ⟨v, w, rfl, r1, r2⟩ := reps2 r
    rw [rep_int] at r1 r2
    exact ⟨_, _, by rw [r1, r2], k _ H _ G (.refl s) (by rw [Rep]) h⟩
  · exact h.elim⟩
theorem c_min (hc : X.calm = true) : CallD X (.builtin "min") minD := ⟨_, call_min2 hc, fun H G vs ds Q R s r h k => by
  unfold minD at h
  split at h
  · obtain ⟨v, w, rfl, r1, r2⟩ := reps2 r
    rw [rep_int] at r1 r2
    exact ⟨_, _, by rw [r1, r2], k _ H _ G (.refl s) (by rw [Rep]) h⟩
  · exact h.elim⟩
def divmodD : CRD := fun vs G Q => match vs with | [.int i, .int j] => DivOk i j ∧ Q (.tup [.int (i / j), .int (i % j)]) G | _ => False
theorem c_divmod : CallD X (.builtin "divmod") divmodD := ⟨_, call_divmodW, fun H G vs ds Q R s r h k => by
  unfold divmodD at h
  split at h
  · obtain ⟨v, w, rfl, r1, r2⟩ := reps2 r
    rw [rep_int] at r1 r2
    refine ⟨_, _, by rw [r1, r2], ⟨h.1.1, PyProof.noPylong_of_log2 h.1.2⟩, fun p hp => k _ _ _ G ⟨.new hp, s.skip hp⟩ ?_ h.2⟩
    rw [rep_tup]
    exact ⟨p, _, rfl, SqT.of upd_same, .cons (by rw [rep_int]) (.one (by rw [rep_int]))⟩
  · exact h.elim⟩
/-! lengths -/
def lenD : CRD := fun vs G Q => match vs with
  | [.str z] => z.length ≤ sizeLine ∧ Q (.int (z.length : Nat)) G
  | [x] => ∃ ds, SeqG G x ds ∧ Q (.int (ds.length : Nat)) G
  | _ => False
theorem c_len : CallD X (.builtin "len") lenD := ⟨_, call_len, fun H G vs ds Q R s r h k => by
  unfold lenD at h
  split at h
  · obtain ⟨v, rfl, r1⟩ := reps1 r
    rw [rep_str] at r1
    subst r1
    exact ⟨_, _, rfl, ⟨h.1, rfl⟩, k _ H _ G (.refl s) (by rw [Rep]) h.2⟩
  · obtain ⟨v, rfl, r1⟩ := reps1 r
    obtain ⟨es, sq, q⟩ := h
    obtain ⟨p, xs, rfl, hs, rs⟩ := sq.get s r1
    refine ⟨_, xs.length, rfl, ?_, k _ H _ G (.refl s) (by rw [rep_int, rs.length]) q⟩
    rcases hs with hs | hs
    · exact .inl ⟨xs, hs, rfl⟩
    · exact .inr ⟨xs, hs, rfl⟩
  · exact h.elim⟩
/-! list(x), tuple(x) of a list or a tuple -/
def listD : CRD := fun vs G Q => match vs with
  | [x] => ∃ ds, SeqG G x ds ∧ ∀ p, G p = none → Q (.ref p) (gupd G p (.lst ds))
  | _ => False
def tupleD : CRD := fun vs G Q => match vs with
  | [x] => ∃ ds, SeqG G x ds ∧ Q (.tup ds) G
  | _ => False
theorem c_list : CallD X (.type "list") listD := ⟨_, call_list_of, fun H G vs ds Q R s r h k => by
  unfold listD at h
  split at h
  · obtain ⟨v, rfl, r1⟩ := reps1 r
    obtain ⟨es, sq, q⟩ := h
    obtain ⟨p, xs, rfl, hs, rs⟩ := sq.get s r1
    refine ⟨p, xs, rfl, hs, fun l hl => k _ _ _ _ ⟨.new hl, s.new (o := .lst es) hl ⟨_, upd_same, Reps.keep (.new hl) _ _ rs⟩⟩ (by rw [Rep]) (q l (s.free hl))⟩
  · exact h.elim⟩
theorem c_tuple : CallD X (.type "tuple") tupleD := ⟨_, call_tuple_of, fun H G vs ds Q R s r h k => by
  unfold tupleD at h
  split at h
  · obtain ⟨v, rfl, r1⟩ := reps1 r
    obtain ⟨es, sq, q⟩ := h
    obtain ⟨p, xs, rfl, hs, rs⟩ := sq.get s r1
    refine ⟨p, xs, rfl, ?_⟩
    rcases hs with hs | hs
    · exact .inl ⟨hs, fun l hl => k _ _ _ G ⟨.new hl, s.skip hl⟩ (by rw [rep_tup]; exact ⟨l, xs, rfl, SqT.of upd_same, Reps.keep (.new hl) _ _ rs⟩) q⟩
    · exact .inr ⟨hs, k _ H _ G (.refl s) (by rw [rep_tup]; exact ⟨p, xs, rfl, hs, rs⟩) q⟩
  · exact h.elim⟩
/-- list(range(n)): a range as an argument -/
def PRd (X : Cx) (H0 : Hp) (e : Expr) (t : AD) : Prop := True
/-! all, any, sum of a list -/
def allD : CRD := fun vs G Q => match vs with
  | [.ref p] => ∃ bs : List Bool, G p = some (.lst (bs.map D.bl)) ∧ Q (.bl (bs.all id)) G
  | _ => False
def anyD : CRD := fun vs G Q => match vs with
  | [.ref p] => ∃ bs : List Bool, G p = some (.lst (bs.map D.bl)) ∧ Q (.bl (bs.any id)) G
  | _ => False
def sumD : CRD := fun vs G Q => match vs with
  | [.ref p] => ∃ ns : List Int, G p = some (.lst (ns.map D.int)) ∧ Q (.int ns.sum) G
  | _ => False
theorem reps_bl {K : PySem.W.Frag} {H : Hp} : ∀ {bs : List Bool} {vs : List V}, Reps K H (bs.map D.bl) vs → vs = bs.map V.bl
  | [], vs, r => by simpa [Reps] using r
  | b :: bs, vs, r => by
    rw [List.map_cons, Reps] at r
    obtain ⟨v, r', rfl, h1, h2⟩ := r
    rw [rep_bl] at h1
    rw [h1, reps_bl h2]; rfl
theorem reps_int {K : PySem.W.Frag} {H : Hp} : ∀ {bs : List Int} {vs : List V}, Reps K H (bs.map D.int) vs → vs = bs.map V.int
  | [], vs, r => by simpa [Reps] using r
  | b :: bs, vs, r => by
    rw [List.map_cons, Reps] at r
    obtain ⟨v, r', rfl, h1, h2⟩ := r
    rw [rep_int] at h1
    rw [h1, reps_int h2]; rfl
theorem reps_str {K : PySem.W.Frag} {H : Hp} : ∀ {bs : List Str} {vs : List V}, Reps K H (bs.map D.str) vs → vs = bs.map V.str
  | [], vs, r => by simpa [Reps] using r
  | b :: bs, vs, r => by
    rw [List.map_cons, Reps] at r
    obtain ⟨v, r', rfl, h1, h2⟩ := r
    rw [rep_str] at h1
    rw [h1, reps_str h2]; rfl
theorem mk_bl {K : PySem.W.Frag} {H : Hp} : ∀ {bs : List Bool}, Reps K H (bs.map D.bl) (bs.map V.bl)
  | [] => .nil
  | b :: bs => .cons (by rw [Rep]) mk_bl
theorem mk_int {K : PySem.W.Frag} {H : Hp} : ∀ {bs : List Int}, Reps K H (bs.map D.int) (bs.map V.int)
  | [] => .nil
  | b :: bs => .cons (by rw [Rep]) mk_int
theorem mk_str {K : PySem.W.Frag} {H : Hp} : ∀ {bs : List Str}, Reps K H (bs.map D.str) (bs.map V.str)
  | [] => .nil
  | b :: bs => .cons (by rw [Rep]) mk_str
theorem c_all (hc : X.calm = true) : CallD X (.builtin "all") allD := ⟨_, cr_all hc, fun H G vs ds Q R s r h k => by
  unfold allD at h
  split at h
  · obtain ⟨v, rfl, r1⟩ := reps1 r
    obtain ⟨bs, e, q⟩ := h
    rw [rep_ref] at r1
    obtain ⟨us, e', rs⟩ := s _ _ e
    rw [reps_bl rs] at e'
    exact ⟨_, bs, by rw [r1], SqL.of e', k _ H _ G (.refl s) (by rw [Rep]) q⟩
  · exact h.elim⟩
theorem c_any (hc : X.calm = true) : CallD X (.builtin "any") anyD := ⟨_, cr_any hc, fun H G vs ds Q R s r h k => by
  unfold anyD at h
  split at h
  · obtain ⟨v, rfl, r1⟩ := reps1 r
    obtain ⟨bs, e, q⟩ := h
    rw [rep_ref] at r1
    obtain ⟨us, e', rs⟩ := s _ _ e
    rw [reps_bl rs] at e'
    exact ⟨_, bs, by rw [r1], SqL.of e', k _ H _ G (.refl s) (by rw [Rep]) q⟩
  · exact h.elim⟩
theorem c_sum (hc : X.calm = true) : CallD X (.builtin "sum") sumD := ⟨_, cr_sum hc, fun H G vs ds Q R s r h k => by
  unfold sumD at h
  split at h
  · obtain ⟨v, rfl, r1⟩ := reps1 r
    obtain ⟨bs, e, q⟩ := h
    rw [rep_ref] at r1
    obtain ⟨us, e', rs⟩ := s _ _ e
    rw [reps_int rs] at e'
    exact ⟨_, bs, by rw [r1], SqL.of e', k _ H _ G (.refl s) (by rw [Rep]) q⟩
  · exact h.elim⟩
/-! isinstance of a built-in class -/
def tyN (x : D) (G : GH) : Option String := match x with
  | .non => some "NoneType"
  | .bl _ => some "bool"
  | .int _ => some "int"
  | .str _ => some "str"
  | .tup _ => some "tuple"
  | .rol _ => some "list"
  | .ref a => match G a with
    | some (.lst _) => some "list"
    | some (.dK _) => some "dict"
    | some (.rod _) => some "dict"
    | _ => none
  | .ty _ => none
def isN (T c : String) : Bool := T == c || (T == "bool" && c == "int")
def isiD : CRD := fun vs G Q => match vs with
  | [x, .ty c] => c ∈ ["int", "bool", "str", "tuple", "list", "dict"] ∧ ∃ T, tyN x G = some T ∧ Q (.bl (isN T c)) G
  | _ => False
theorem tyN_ok {K : PySem.W.Frag} {mg : Str → Option Value} {G : GH} {H : Hp} {d : D} {v : V} {T : String} (s : Sim K mg G H) (r : Rep K H d v) (h : tyN d G = some T) : TyX K H v (.type T) := by
  cases d with
  | non => rw [rep_non] at r; subst r; cases h; exact .base .non
  | bl b => rw [rep_bl] at r; subst r; cases h; exact .base (.bl _)
  | int b => rw [rep_int] at r; subst r; cases h; exact .base (.int _)
  | str b => rw [rep_str] at r; subst r; cases h; exact .base (.str _)
  | tup ds =>
    rw [rep_tup] at r
    obtain ⟨a, xs, rfl, q, r⟩ := r
    cases h
    rcases q with (q | ⟨o, q⟩) | ⟨o, its, n, q, hc, _⟩
    · exact .base (.tup q)
    · exact .fTuple q
    · exact .kTuple q hc
  | rol ds =>
    rw [rep_rol] at r
    obtain ⟨a, xs, rfl, q, r⟩ := r
    cases h
    rcases q.sq with (q | ⟨o, q⟩) | ⟨o, its, n, q, hc, _⟩
    · exact .base (.lst q)
    · exact .base (.frz q)
    · exact .kList q hc
  | ty _ => cases h
  | ref a =>
    rw [rep_ref] at r
    subst r
    unfold tyN at h
    simp only at h
    split at h
    · rename_i ds e
      obtain ⟨vs, q, _⟩ := s a _ e
      cases h
      exact .base (.lst q)
    · rename_i ds e
      obtain ⟨vs, q, _⟩ := s a _ e
      cases h
      exact .base (.dK q)
    · rename_i ds e
      obtain ⟨vs, o, q, _⟩ := s a _ e
      cases h
      exact .fDict q
    · cases h
theorem tyN_in {x : D} {G : GH} {T : String} (h : tyN x G = some T) : T ∈ ["NoneType", "bool", "int", "str", "tuple", "list", "dict"] := by
  unfold tyN at h
  (repeat' split at h) <;> first | (cases h; simp; done) | (cases h; done)
theorem kit_all : ∀ T ∈ ["NoneType", "bool", "int", "str", "tuple", "list", "dict"], ∀ c ∈ ["int", "bool", "str", "tuple", "list", "dict"], kitB T c = some (isN T c) := by decide +kernel
theorem c_isi : CallD X (.builtin "isinstance") isiD := ⟨_, call_isi, fun H G vs ds Q R s r h k => by
  unfold isiD at h
  split at h
  · rename_i x c
    obtain ⟨v, w, rfl, r1, r2⟩ := reps2 r
    obtain ⟨hc, T, hT, q⟩ := h
    rw [rep_ty] at r2
    subst r2
    exact ⟨v, _, _, _, _, rfl, .ty c, tyN_ok s r1 hT, kit_ty (kit_all T (tyN_in hT) c hc), k _ H _ G (.refl s) (by rw [Rep]) q⟩
  · exact h.elim⟩
/-! str(n), int(text) -/
def strD : CRD := fun vs G Q => match vs with
  | [.int i] => i.natAbs.log2 < 1920 ∧ Q (.str (toString i)) G
  | _ => False
theorem c_str : CallD X (.type "str") strD := ⟨_, call_str_int, fun H G vs ds Q R s r h k => by
  unfold strD at h
  split at h
  · obtain ⟨v, rfl, r1⟩ := reps1 r
    rw [rep_int] at r1
    exact ⟨_, by rw [r1], h.1, k _ H _ G (.refl s) (by rw [Rep]) h.2⟩
  · exact h.elim⟩
def intD : CRD := fun vs G Q => match vs with
  | [.str z] => ∃ n, PySem.intText? z = some n ∧ z.length ≤ 640 ∧ Q (.int n) G
  | _ => False
theorem c_int : CallD X (.type "int") intD := ⟨_, call_int_str, fun H G vs ds Q R s r h k => by
  unfold intD at h
  split at h
  · obtain ⟨v, rfl, r1⟩ := reps1 r
    rw [rep_str] at r1
    obtain ⟨n, h1, h2, q⟩ := h
    exact ⟨_, n, by rw [r1], h1, h2, k _ H _ G (.refl s) (by rw [Rep]) q⟩
  · exact h.elim⟩
end
end Q
set_option maxHeartbeats 4000000
/-! QH: defs: what they promise, how they are called -/
namespace Q
open PySem PySem.Spec PyProof.Rows L2
/-- what is wanted of an exception: its class's name, its own values, the heap behind it -/
abbrev XD := Str → List (Str × D) → GH → Prop
/-- .. with the slots of the frame -/
abbrev WS := Str → List (Str × D) → SD → GH → Prop
abbrev DSp := List D → GH → QK → XD → Prop
/-- an exception's own values -/
def XF (K : PySem.W.Frag) (H : Hp) (fs : List (Str × D)) : Option Addr → Prop
  | none => fs = []
  | some d => ∃ gs, H d = some (.xd gs) ∧ KRep K H fs gs
def liftSp (K : PySem.W.Frag) (mg : Str → Option Value) (sp : DSp) : Sp := fun vs H Q E => ∃ ds G Qd Ed, Reps K H ds vs ∧ Sim K mg G H ∧ sp ds G Qd Ed ∧ (∀ v H' d G', VOk K mg H H' G' → Rep K H' d v → Qd d G' → Q v H') ∧
  ∀ c fs C d H' G', mg c = some (.ref C) → XF K H' fs d → VOk K mg H H' G' → Ed c fs G' → E (.ref C) d H'
structure FnG (P : Program) (w : World) (K : PySem.W.Frag) (mg : Str → Option Value) (base : Heap) (k : Nat) (f : Addr) (fd : FuncData) (ps : List Str) (sp : Sp) : Prop where
  len : ∀ vs H Q E, sp vs H Q E → vs.length = ps.length
  run : ∀ (A : Around) (outer : List Env) (s : Shared) (H : Hp) (args : Args) (us : List Value) (vs : List V) (Q : VK) (E : XK), Room k A → A.guards = some [] → Env0 P w K mg base A outer s H → BindsTo s fd args (ps.zip us) → Vals vs us → sp vs H Q E →
    codeAny (model P w) A (.call (.ref f) args) (CR (L2.CX P w) outer P w H s Q E) s
/-- a def of the module by its name: its promise, n places, defaults -/
structure Has (P : Program) (w : World) (K : PySem.W.Frag) (mg : Str → Option Value) (base : Heap) (k : Nat) (x : Str) (n : Nat) (dds : List D) (sp : DSp) : Prop where
  ex : ∃ f fd ps ds dvs, mg x = some (.ref f) ∧ PySem.W.keepIn K (.ref f) = true ∧ Binds K fd ps ds ∧ Vals dvs ds ∧ (∀ H, Reps K H dds dvs) ∧ ps.length = n + dds.length ∧ FnG P w K mg base k f fd ps (liftSp K mg sp)
/-- an exception is taken by the code around -/
structure TkD (X : Cx) (H0 : Hp) (Wd : WS) : Prop where
  ex : ∃ W : WX, Takes X W ∧ ∀ c fs C d σ H' δ' G', X.mg c = some (.ref C) → XF X.K H' fs d → StOk X.K X.mg H0 H' σ δ' G' → Wd c fs δ' G' → W (.ref C) d σ H'
/-- where a body stands -/
structure Bod (X : Cx) (H0 : Hp) (Wd : WS) (k : Nat) : Prop where
  hr : Room k X.A
  hg : X.A.guards = some []
  hc : X.calm = true
  tk : TkD X H0 Wd
abbrev W0 : WS := fun _ _ _ _ => False
section
variable {X : Cx} {H0 : Hp} {Wd : WS} {k j n : Nat} {x : Str} {dds : List D} {sp : DSp} {e : Expr} {es : List Expr} {t : AD} {p pos : Pos}
theorem Bod.hu (B : Bod X H0 Wd k) : X.A.units + 64 < cLine := B.hr.units
theorem Bod.blk (B : Bod X H0 Wd k) (s : Shared) (H : Hp) (scope : Scope) (cenv : Env) (fp : List Addr) : Bod (X.blk s H scope cenv fp) H0 W0 k :=
  ⟨B.hr, B.hg, B.hc, ⟨fun _ _ _ _ => False, fun u s' z => by
    obtain ⟨_, _, _, _, _, _, _, _, _, _, _, _, _, _, _, _, z⟩ := z
    exact z.elim, fun _ _ _ _ _ _ _ _ _ _ _ z => z.elim⟩⟩
def dCall (sp : DSp) (Wd : WS) (dds : List D) (t : AD) : ED := fun δ G Q => t δ G fun vs G1 => sp (vs ++ dds) G1 Q fun c fs G' => Wd c fs δ G'
theorem run_g {f : Addr} {fd : FuncData} {ps : List Str} {dvs : List V} {ds : List Value} {pins : List (Addr × Obj)} {σ : L2.St} {H : Hp} {s : Shared} {R : VK} {us : List Value} {vs : List V} {δ : SD} {G : GH} {Q : QK} {dvd : List D}
    (F : FnG X.prog X.w X.K X.mg X.base j f fd ps (liftSp X.K X.mg sp)) (B : Bod X H0 Wd k) (hj : j ≤ k) (hb : Binds X.K fd ps ds) (hd : Vals dvs ds) (hdd : ∀ H, Reps X.K H dds dvs)
    (I : Inv X pins σ H s) (r : Vals vs us) (S : StOk X.K X.mg H0 H σ δ G) (rv : Reps X.K H dvd vs) (h : sp (dvd ++ dds) G Q fun c fs G' => Wd c fs δ G') (hq : ∀ v H' d G', VOk X.K X.mg H H' G' → Rep X.K H' d v → Q d G' → R v H') :
    wpAny (model X.prog X.w) X.A (call (.ref f) us) (EP X pins σ R) X.xe s := by
  obtain ⟨W, tk, hW⟩ := B.tk.ex
  have r2 : Vals (vs ++ dvs) (us ++ ds) := r.append hd
  have h2 : liftSp X.K X.mg sp (vs ++ dvs) H R (fun cls d H' => W cls d σ H') :=
    ⟨_, G, Q, _, rv.append (hdd H), S.sm, h, hq, fun c fs C d H' G' m xf v z => hW c fs C d σ H' δ G' m xf (S.step v) z⟩
  have hl : (us ++ ds).length = ps.length := by rw [← r2.length]; exact F.len _ _ _ _ h2
  refine wpAny_call (codeAny_mono (F.run X.A X.stack s H ⟨us, []⟩ _ _ R _ (B.hr.mono hj) B.hg I.env0 (hb s us I.kIn hl) r2 h2) fun r s' hq' => ?_)
  cases r with
  | error e => exact tk e s' (XE.of_call I (fun cls d H' h => h) hq')
  | ok fl =>
    cases fl with
    | ret u => exact I.after hq'
    | next => exact False.elim hq'
    | brk => exact False.elim hq'
    | cont => exact False.elim hq'
theorem d_call (h : Has X.prog X.w X.K X.mg X.base j x n dds sp) (B : Bod X H0 Wd k) (ha : PAd X H0 (e :: es) t) (hj : j ≤ k := by decide) (hg : Gl X x := by rfl) (hdb : (x == ("__debug__" : Str)) = false := by decide)
    (he : starEach (e :: es) X.env = (false, eval e X.env) :: starEach es X.env := by rfl) (hpl : (backTo pos (starEach es X.env)).any (·.1) = false := by rfl) : PEd X H0 (.Call (.Name x p) (e :: es) [] pos) (dCall sp Wd dds t) := by
  obtain ⟨f, fd, ps, ds, dvs, hm, hk, hb, hd, hdd, hn, F⟩ := h.ex
  refine ⟨fun pins s σ H R I ⟨G, δ, Q, S, h, q⟩ => ?_⟩
  refine wpAny_Call_Name_kw (ld_glob I hg hm ?_ hdb)
  refine PySem.W.callWith_K (h₀ := X.base) I.ok.mod.kin hk (thn (ha.run pos pins s σ H (fun vs H1 => ∃ ds G1, VOk X.K X.mg H H1 G1 ∧ Reps X.K H1 ds vs ∧ sp (ds ++ dds) G1 Q fun c fs G' => Wd c fs δ G') I ⟨G, δ, _, S, h, fun vs H1 ds G1 v1 r1 h1 => ⟨ds, G1, v1, r1, h1⟩⟩) fun us s1 ⟨vs, H1, I1, r, ds', G1, v1, r1, h1⟩ => ⟨I1.kIn, ?_⟩) he hpl
  exact run_g F B hj hb hd hdd I1 r (S.step v1) r1 h1 fun v H' d G' v2 => q v H' d G' (v1.trans v2)
theorem d_call0 (h : Has X.prog X.w X.K X.mg X.base j x n dds sp) (B : Bod X H0 Wd k) (hj : j ≤ k := by decide) (hg : Gl X x := by rfl) (hdb : (x == ("__debug__" : Str)) = false := by decide) : PEd X H0 (.Call (.Name x p) [] [] pos) (dCall sp Wd dds dNil) := by
  obtain ⟨f, fd, ps, ds, dvs, hm, hk, hb, hd, hdd, hn, F⟩ := h.ex
  refine ⟨fun pins s σ H R I ⟨G, δ, Q, S, h, q⟩ => ?_⟩
  refine wpAny_Call_Name_kw (ld_glob I hg hm ?_ hdb)
  exact PySem.W.callWith_K0 I.kIn hk (run_g (us := []) F B hj hb hd hdd I .nil S .nil h fun v H' d G' v2 => q v H' d G' v2)

/-! ### a body keeps its promise -/
def startD (N : List Str) (ds : List D) : SD := ds.map some ++ List.replicate (N.length - ds.length) none
theorem start_reps {K : PySem.W.Frag} {H : Hp} {N : List Str} {ds : List D} {vs : List V} (r : Reps K H ds vs) : RepS K H (startD N ds) (start N vs) := by
  have hl := r.length
  refine ⟨by simp [startD, L2.start, hl], fun i d e => ?_⟩
  unfold startD at e
  unfold L2.start
  by_cases hi : i < ds.length
  · rw [List.getElem?_append_left (by simpa using hi), List.getElem?_map] at e
    rw [List.getElem?_append_left (by simp; omega), List.getElem?_map]
    cases q : ds[i]? with
    | none => rw [q] at e; cases e
    | some d' =>
      rw [q] at e
      cases e
      obtain ⟨v, h1, h2⟩ := r.get' q
      exact ⟨v, by rw [h1]; rfl, h2⟩
  · rw [List.getElem?_append_right (by simp; omega), List.getElem?_replicate] at e
    split at e <;> cases e
end
section
variable {P : Program} {w : World} {K : PySem.W.Frag} {mg : Str → Option Value} {base : Heap}
/-- the body's end -/
theorem fin_g {N : List Str} {qual : Str} {scope : Scope} {f : Addr} {cdv : Value} {A : Around} {outer : List Env} {s s' : Shared} {H : Hp} {Q : VK} {E : XK} {fl : Flow}
    (h : SP (cxOf (L2.CX P w) P w K mg base N qual scope f cdv A outer s H E) [] { nx := fun _ H' => Q .non H', rt := Q } fl s') : CR (L2.CX P w) outer P w H s Q E (.ok (.ret (match fl with | .ret u => u | _ => Value.none))) s' := by
  cases fl with
  | ret u => exact let ⟨v, _, H', J, rv, q⟩ := h; ⟨v, H', J.os, J.bare, J.base, J.hok, rv, q⟩
  | next => exact let ⟨_, H', J, q⟩ := h; ⟨.non, H', J.os, J.bare, J.base, J.hok, rfl, q⟩
  | brk => exact let ⟨_, _, _, q⟩ := h; q.elim
  | cont => exact let ⟨_, _, _, q⟩ := h; q.elim
theorem fnG_of {k : Nat} {f : Addr} {name qual : Str} {params : Arguments} {body : List Stmt} {scope : Scope} {dV kV doc pm cdv ct oc : Value} {an od : Option Addr} {osl : Array (Option Value)} {N ps : List Str} {sp : Sp}
    (lk : K.lookup f = some ⟨oc, od, .func (PySem.W.fnOf name qual params body scope dV kV doc pm an cdv ct), osl⟩) (hcd : PySem.W.codeIn K cdv qual = true) (S : FnScope N ps scope) (len : ∀ vs H Q E, sp vs H Q E → vs.length = ps.length)
    (hbody : ∀ (A : Around) (outer : List Env) (s : Shared) (H : Hp) (vs : List V) (Q : VK) (E : XK), Room k (A.deeper (envOfC qual scope s.heap.objs.size f cdv)) → A.guards = some [] → sp vs H Q E →
      ∃ t, PSs (cxOf (L2.CX P w) P w K mg base N qual scope f cdv A outer s H E) body t ∧ t { nx := fun _ H' => Q .non H', rt := Q } (start N vs) H) :
    FnG P w K mg base (k + 1) f (PySem.W.fnOf name qual params body scope dV kV doc pm an cdv ct) ps sp := by
  refine ⟨len, fun A outer s H args us vs Q E hr hgd e0 hb r hsp => ?_⟩
  have kp : ∀ b o, base.get? b = some o → s.heap.get? b = some o := fun b o e => (e0.bs b o e).1
  have hknd : ∀ z ∈ ps.zip us, scope.names.lookup z.1 = some .local ∨ (scope.names.lookup z.1 = some .cell ∧ ((cellsFrom (s.heap.objs.size + 1) scope.names []).lookup z.1).isSome = true) := fun z hz =>
    (S.par z.1 (List.of_mem_zip (show (z.1, z.2) ∈ _ from hz)).1).imp id fun q => ⟨q, PySem.W.cellsFrom_some _ _ _ (.inl q)⟩
  have KX := e0.mod.kin.keeps kp
  refine codeAny_call_function hr.depth (KX _ _ lk) rfl S.co S.gen rfl (PySem.W.codeRec_of KX hcd) (hb _ _ _ _ (wpAny_newFunctionEnv_cells S.kind hknd fun env he s1 x => ?_))
  subst he
  refine ⟨(e0.mod.nolimit.keeps kp).keeps x.toInCall.keep, codeAny_func ?_⟩
  obtain ⟨t, ht, hq⟩ := hbody A outer s H vs Q E (hr.deeper _) hgd hsp
  have I := inv_start (CX := L2.CX P w) (E := E) S hr.hd e0 (len _ _ _ _ hsp) r x
  refine wpAny_mono (ht.run [] s1 (start N vs) H _ I hq) (fun fl s' hs => ?_) fun _ _ z => z
  have z := fin_g hs
  cases fl with
  | ret u => exact z
  | next => exact z
  | brk => exact let ⟨_, _, _, q⟩ := hs; q.elim
  | cont => exact let ⟨_, _, _, q⟩ := hs; q.elim
/-- THE RULE for a def of the module -/
theorem Has.mk' {x qual : Str} {st : Stmt} {f : Addr} {fd : FuncData} {N ps : List Str} {k n : Nat} {dds : List D} {dvs : List V} {ds : List Value} {sp : DSp} (F : Fun K x qual st f fd) (hm : mg x = some (.ref f)) (S : FnScope N ps (defScope st)) (hb : Binds K fd ps ds) (hd : Vals dvs ds) (hdd : ∀ H, Reps K H dds dvs) (hn : ps.length = n + dds.length)
    (len : ∀ ds G Q E, sp ds G Q E → ds.length = ps.length)
    (body : ∀ (cdv : Value) (A : Around) (outer : List Env) (s : Shared) (H : Hp) (E : XK) (ds : List D) (G : GH) (Q : QK) (Ed : XD), Bod (cxOf (L2.CX P w) P w K mg base N qual (defScope st) f cdv A outer s H E) H (fun c fs _ G' => Ed c fs G') k →
      PassesOwn (model P w) (cxOf (L2.CX P w) P w K mg base N qual (defScope st) f cdv A outer s H E).A (cxOf (L2.CX P w) P w K mg base N qual (defScope st) f cdv A outer s H E).env (cxOf (L2.CX P w) P w K mg base N qual (defScope st) f cdv A outer s H E).xe → sp ds G Q Ed →
      ∃ t, PSsd (cxOf (L2.CX P w) P w K mg base N qual (defScope st) f cdv A outer s H E) H (defBody st) t ∧ t { nx := fun _ G' => Q .non G', rt := Q } (startD N ds) G) :
    Has P w K mg base (k + 1) x n dds sp := by
  have hF := F
  obtain ⟨oc, od, kV, doc, pm, an, cdv, ct, osl, rfl, lk, hcd⟩ := F.ex
  refine ⟨f, _, ps, ds, dvs, hm, hF.kp, hb, hd, hdd, hn, fnG_of lk hcd S (fun vs H Q E ⟨ds, G, Qd, Ed, r, sm, h, _⟩ => by rw [r.length]; exact len _ _ _ _ h) fun A outer s H vs Q E hr hg ⟨ds', G, Qd, Ed, r, sm, h, hq, hx⟩ => ?_⟩
  have tk : Takes (cxOf (L2.CX P w) P w K mg base N qual (defScope st) f cdv A outer s H E) (fun cls d _ H => E cls d H) := takes_of rfl rfl rfl rfl
  have B : Bod (cxOf (L2.CX P w) P w K mg base N qual (defScope st) f cdv A outer s H E) H (fun c fs _ G' => Ed c fs G') k :=
    ⟨hr, hg, rfl, ⟨_, tk, fun c fs C d σ H' δ' G' m xf S z => hx c fs C d H' G' m xf ⟨S.kp, S.sm⟩ z⟩⟩
  obtain ⟨t, ht, z⟩ := body cdv A outer s H E ds' G Qd Ed B (passes_of rfl) h
  refine ⟨_, ht, G, startD N ds', _, ⟨.refl _, start_reps r, sm⟩, z, ⟨fun σ' H' δ' G' kp s' q => hq .non H' .non G' ⟨kp, s'.sm⟩ (by rw [Rep]) q, fun v H' d G' v1 r1 q => hq v H' d G' v1 r1 q, fun _ _ _ _ _ _ z => z.elim, fun _ _ _ _ _ _ z => z.elim⟩⟩
end

/-! ### raise -/
/-- an own exception class without an __init__ of its own -/
structure ExcC (K : PySem.W.Frag) (mg : Str → Option Value) (c : Str) : Prop where
  ex : ∃ C, mg c = some (.ref C) ∧ PySem.W.excIn K C [.type "ValueError", .type "Exception", .type "BaseException", .type "object"] "ValueError.__new__" = true ∧ PySem.W.keepIn K (.ref C) = true ∧ PySem.W.subIn K (.ref C) (.type "BaseException") = some true ∧ PySem.W.typeIn K (.ref C) = some (.type "type")
section
variable {X : Cx} {H0 : Hp} {Wd : WS} {k : Nat} {pos p p2 : Pos}
def dRaise (c : Str) (Wd : WS) : BD := fun _ δ G => Wd c [] δ G
theorem s_raise {c m : Str} {j : Nat} {rpos : Pos} (ec : ExcC X.K X.mg c) (B : Bod X H0 Wd k) (hg : Gl X c := by rfl) (hdb : (c == ("__debug__" : Str)) = false := by decide) :
    PSd X H0 (.Raise (some (.Call (.Name c p) [.Constant (.str m) j p2] [] pos)) none rpos) (dRaise c Wd) := by
  obtain ⟨C, hm, hx, hk, hs, ht⟩ := ec.ex
  obtain ⟨W, tk, hW⟩ := B.tk.ex
  exact PS.imp (ps_raise B.hc tk (pmk_own PySem.F.excBase_ValueError hx hm hk (raises_own hs ht) hg hdb)) fun Dn σ H ⟨G, δ, E, s, h, _⟩ => hW c [] C none σ H δ G hm rfl s h
end
end Q
set_option maxHeartbeats 4000000
/-! QI: methods of lists and texts, f-texts -/
namespace Q
open PySem PySem.Spec PyProof.Rows L2
section
variable {X : Cx} {H0 : Hp} {e a b c o tg : Expr} {es rest : List Expr} {pos p apos cpos : Pos} {ta tb tc : ED} {name : Str} {t : AD} {id T : String}
def tyD (T : String) (x : D) (G : GH) : Prop := match x with
  | .str _ => T = "str"
  | .rol _ => T = "list"
  | .ref a => (T = "list" ∧ ∃ ds, G a = some (.lst ds)) ∨ (T = "dict" ∧ ∃ kvs, G a = some (.dK kvs))
  | _ => False
theorem tyD_ok {K : PySem.W.Frag} {mg : Str → Option Value} {G : GH} {H : Hp} {d : D} {v : V} (s : Sim K mg G H) (r : Rep K H d v) (h : tyD T d G) : tyV K T v H := by
  cases d with
  | str z => rw [rep_str] at r; subst r; exact h
  | rol ds =>
    rw [rep_rol] at r
    obtain ⟨a, xs, rfl, q, r⟩ := r
    exact .inl ⟨h, xs, q.sq⟩
  | ref a =>
    rw [rep_ref] at r
    subst r
    rcases h with ⟨h, ds, e⟩ | ⟨h, kvs, e⟩
    · obtain ⟨vs, q, _⟩ := s a _ e
      exact .inl ⟨h, vs, SqL.of q⟩
    · obtain ⟨vs, q, _⟩ := s a _ e
      exact .inr (.inr (.inl ⟨h, .inl ⟨vs, q⟩⟩))
  | _ => exact h.elim
abbrev MRD := D → List D → GH → QK → Prop
def MtD (X : Cx) (id : String) (rd : MRD) : Prop := ∃ r, MtR X id r ∧ ∀ H G v vs d ds Q R, Sim X.K X.mg G H → Rep X.K H d v → Reps X.K H ds vs → rd d ds G Q → (∀ v H' d G', VOk X.K X.mg H H' G' → Rep X.K H' d v → Q d G' → R v H') → r v vs H R
def dMt (T : String) (r : MRD) (ta : ED) (t : AD) : ED := fun δ G Q => ta δ G fun x G1 => tyD T x G1 ∧ t δ G1 fun vs G2 => r x vs G2 Q
theorem d_mt {rd : MRD} (hm : MtD X id rd) (pa : PlainAttrs T) (slot : Slot T name id) (hty : typeOf (.builtin id) = pure (.type "method_descriptor")) (ho : PEd X H0 o ta) (ha : PAd X H0 (e :: es) t) (hbase : attributeBase o name X.env (eval o X.env) = eval o X.env := by rfl)
    (hfew : ((backTo cpos (starEach (e :: es) X.env)).all (fun x => !x.1) && (backToKw cpos (keywordEach [] X.env)).all (fun x => x.1.isSome) && decide ((e :: es).length + ([] : List Keyword).length + (if ([] : List Keyword).isEmpty then 0 else 1) < 30)) = true := by rfl)
    (hline : (apos.endLine == cpos.line) = true := by rfl) (hs : starEach (e :: es) X.env = (false, eval e X.env) :: starEach es X.env := by rfl) (hplain : (backTo cpos (starEach es X.env)).any (·.1) = false := by rfl) :
    PEd X H0 (.Call (.Attribute o name apos) (e :: es) [] cpos) (dMt T rd ta t) := by
  obtain ⟨r, h1, h2⟩ := hm
  exact PE.imp (pe_bm pa slot hty h1 ho ha hbase hfew hline hs hplain) fun σ H R ⟨G, δ, Q, s, h, q⟩ => ⟨G, δ, _, s, h, fun v H1 d G1 v1 r1 hh => ⟨tyD_ok v1.sm r1 hh.1, G1, δ, _, s.step v1, hh.2, fun vs H2 ds G2 v2 r2 h3 =>
    h2 H2 G2 v vs d ds Q R v2.sm (Rep.keep v2.kp _ _ r1) r2 h3 fun v' H' d' G' v3 => q v' H' d' G' ((v1.trans v2).trans v3)⟩⟩
def dMt0 (T : String) (r : MRD) (ta : ED) : ED := fun δ G Q => ta δ G fun x G1 => tyD T x G1 ∧ r x [] G1 Q
theorem d_mt0 {rd : MRD} (hm : MtD X id rd) (pa : PlainAttrs T) (slot : Slot T name id) (hty : typeOf (.builtin id) = pure (.type "method_descriptor")) (ho : PEd X H0 o ta) (hbase : attributeBase o name X.env (eval o X.env) = eval o X.env := by rfl)
    (hline : (apos.endLine == cpos.line) = true := by rfl) : PEd X H0 (.Call (.Attribute o name apos) [] [] cpos) (dMt0 T rd ta) := by
  obtain ⟨r, h1, h2⟩ := hm
  exact PE.imp (pe_bm0 pa slot hty h1 ho hbase hline) fun σ H R ⟨G, δ, Q, s, h, q⟩ => ⟨G, δ, _, s, h, fun v H1 d G1 v1 r1 hh => ⟨tyD_ok v1.sm r1 hh.1, h2 H1 G1 v [] d [] Q R v1.sm r1 .nil hh.2 fun v' H' d' G' v3 => q v' H' d' G' (v1.trans v3)⟩⟩
/-- a list written anew -/
theorem lst_put {K : PySem.W.Frag} {mg : Str → Option Value} {G : GH} {H : Hp} {l : Addr} {ds : List D} {vs : List V} {us : List V} {es : List D} (s : Sim K mg G H) (e : H l = some (.lst vs)) (r : Reps K H es us) : VOk K mg H (upd H l (.lst us)) (gupd G l (.lst es)) := by
  have kp : Keep H (upd H l (.lst us)) := .put e (fun _ z => by cases z) (fun _ _ z => by cases z)
  exact ⟨kp, s.put (o := .lst es) kp ⟨us, upd_same, Reps.keep kp _ _ r⟩⟩
def appendD : MRD := fun x vs G Q => match x, vs with
  | .ref l, [y] => ∃ ds, G l = some (.lst ds) ∧ ds.length < sizeLine ∧ Q .non (gupd G l (.lst (ds ++ [y])))
  | _, _ => False
theorem m_append : MtD X "list.append" appendD := ⟨_, mt_append, fun H G v vs d ds Q R s r rs h k => by
  unfold appendD at h
  split at h
  · rename_i l y
    obtain ⟨ds, e, hz, q⟩ := h
    rw [rep_ref] at r
    obtain ⟨w, rfl, ry⟩ := reps1 rs
    obtain ⟨us, e', ru⟩ := s _ _ e
    exact ⟨l, us, w, r, rfl, e', by rw [ru.length]; exact hz, k _ _ _ _ (lst_put (ds := ds) s e' (ru.append (.one ry))) (by rw [Rep]) q⟩
  · exact h.elim⟩
def insertD : MRD := fun x vs G Q => match x, vs with
  | .ref l, [.int i, y] => ∃ ds, G l = some (.lst ds) ∧ ds.length < sizeLine ∧ (0 ≤ i ∧ i < 2 ^ 63) ∧ Q .non (gupd G l (.lst (ds.take i.toNat ++ [y] ++ ds.drop i.toNat)))
  | _, _ => False
theorem m_insert : MtD X "list.insert" insertD := ⟨_, mt_insert, fun H G v vs d ds Q R s r rs h k => by
  unfold insertD at h
  split at h
  · rename_i l i y
    obtain ⟨ds, e, hz, ⟨h0, h1⟩, q⟩ := h
    rw [rep_ref] at r
    obtain ⟨wi, w, rfl, ri, ry⟩ := reps2 rs
    rw [rep_int] at ri
    obtain ⟨us, e', ru⟩ := s _ _ e
    exact ⟨l, us, i, w, r, by rw [ri], e', by rw [ru.length]; exact hz, h0, h1, k _ _ _ _ (lst_put (ds := ds) s e' (((ru.take _).append (.one ry)).append (ru.drop _))) (by rw [Rep]) q⟩
  · exact h.elim⟩
def extendD : MRD := fun x vs G Q => match x, vs with
  | .ref l, [.ref m] => ∃ ds es, G l = some (.lst ds) ∧ G m = some (.lst es) ∧ ds.length + es.length ≤ sizeLine ∧ Q .non (gupd G l (.lst (ds ++ es)))
  | _, _ => False
theorem m_extend : MtD X "list.extend" extendD := ⟨_, mt_extend, fun H G v vs d ds Q R s r rs h k => by
  unfold extendD at h
  split at h
  · rename_i l m
    obtain ⟨ds, es, e, e2, hz, q⟩ := h
    rw [rep_ref] at r
    obtain ⟨w, rfl, ry⟩ := reps1 rs
    rw [rep_ref] at ry
    subst ry
    obtain ⟨us, e', ru⟩ := s _ _ e
    obtain ⟨ws, e3, rw'⟩ := s _ _ e2
    exact ⟨l, m, us, ws, r, rfl, e', e3, by rw [ru.length, rw'.length]; exact hz, k _ _ _ _ (lst_put (ds := ds) s e' (ru.append rw')) (by rw [Rep]) q⟩
  · exact h.elim⟩
/-- xs.index(y), flat things: the first place -/
def indexD : MRD := fun x vs G Q => match vs with
  | [y] => ∃ ds, (match x with | .ref l => G l = some (.lst ds) | .rol es => es = ds | _ => False) ∧ flatD y = true ∧ ds.all flatD = true ∧ ∃ j z, ds[j]? = some z ∧ eqF z y = true ∧ (∀ m z', m < j → ds[m]? = some z' → eqF z' y = false) ∧ Q (.int (j : Nat)) G
  | _ => False
theorem m_index : MtD X "list.index" indexD := ⟨_, mt_index, fun H G v vs d ds Q R s r rs h k => by
  unfold indexD at h
  split at h
  · rename_i y
    obtain ⟨ds, hd, fy, fds, j, z, hz, ez, hno, q⟩ := h
    obtain ⟨w, rfl, ry⟩ := reps1 rs
    have : ∃ a us, v = .ref a ∧ SqL X.K H a us ∧ Reps X.K H ds us := by
      split at hd
      · rename_i l
        rw [rep_ref] at r
        obtain ⟨us, e', ru⟩ := s _ _ hd
        exact ⟨l, us, r, SqL.of e', ru⟩
      · rename_i es
        subst hd
        rw [rep_rol] at r
        obtain ⟨a, xs, e, h1, r1⟩ := r
        exact ⟨a, xs, e, h1.sq, r1⟩
      · exact hd.elim
    obtain ⟨a, us, rfl, hs, ru⟩ := this
    obtain ⟨f1, f2⟩ := flat_rep fy ry
    obtain ⟨g1, _⟩ := flat_reps fds ru
    obtain ⟨zv, hzv, rz⟩ := ru.get' hz
    have fz : flatD z = true := List.all_eq_true.mp fds z (List.mem_of_getElem? hz)
    refine ⟨a, us, w, j, zv, rfl, rfl, hs, f1, g1, hzv, by rw [(flat_rep fz rz).2 _ _ fy ry]; exact ez, fun m z' hm hz' => ?_, k _ H _ G (.refl s) (by rw [Rep]) q⟩
    obtain ⟨d', hd', rd'⟩ := ru.get hz'
    have fd' : flatD d' = true := List.all_eq_true.mp fds d' (List.mem_of_getElem? hd')
    rw [(flat_rep fd' rd').2 _ _ fy ry]
    exact hno m d' hm hd'
  · exact h.elim⟩
def reverseD : MRD := fun x vs G Q => match x, vs with
  | .ref l, [] => ∃ ds, G l = some (.lst ds) ∧ Q .non (gupd G l (.lst ds.reverse))
  | _, _ => False
theorem m_reverse : MtD X "list.reverse" reverseD := ⟨_, mt_reverse, fun H G v vs d ds Q R s r rs h k => by
  unfold reverseD at h
  split at h
  · rename_i l
    obtain ⟨ds, e, q⟩ := h
    rw [rep_ref] at r
    rw [Reps] at rs
    obtain ⟨us, e', ru⟩ := s _ _ e
    exact ⟨l, us, r, rs, e', k _ _ _ _ (lst_put (ds := ds) s e' ru.reverse) (by rw [Rep]) q⟩
  · exact h.elim⟩
def clearD : MRD := fun x vs G Q => match x, vs with
  | .ref l, [] => ∃ ds, G l = some (.lst ds) ∧ Q .non (gupd G l (.lst []))
  | _, _ => False
theorem m_clear : MtD X "list.clear" clearD := ⟨_, mt_clear, fun H G v vs d ds Q R s r rs h k => by
  unfold clearD at h
  split at h
  · rename_i l
    obtain ⟨ds, e, q⟩ := h
    rw [rep_ref] at r
    rw [Reps] at rs
    obtain ⟨us, e', ru⟩ := s _ _ e
    exact ⟨l, us, r, rs, e', k _ _ _ _ (lst_put (ds := ds) s e' .nil) (by rw [Rep]) q⟩
  · exact h.elim⟩

/-! ### texts -/
def str1 (C : Str → Str → Prop) (g : Str → Str → D) : MRD := fun x vs G Q => match x, vs with
  | .str z, [.str y] => C z y ∧ Q (g z y) G
  | _, _ => False
def splitD : MRD := fun x vs G Q => match x, vs with
  | .str z, [.str y] => (y.length == 0) = false ∧ z.length + 2 ≤ sizeLine ∧ ∀ p, G p = none → Q (.ref p) (gupd G p (.lst ((Txt.split z y).map D.str)))
  | _, _ => False
theorem m_split : MtD X "str.split" splitD := ⟨_, mt_split, fun H G v vs d ds Q R s r rs h k => by
  unfold splitD at h
  split at h
  · rename_i z y
    rw [rep_str] at r
    obtain ⟨w, rfl, ry⟩ := reps1 rs
    rw [rep_str] at ry
    refine ⟨z, y, r, by rw [ry], h.1, h.2.1, fun p hp => ?_⟩
    exact k _ _ _ _ ⟨.new hp, s.new (o := .lst ((Txt.split z y).map D.str)) hp ⟨_, upd_same, mk_str⟩⟩ (by rw [Rep]) (h.2.2 p (s.free hp))
  · exact h.elim⟩
def partitionD : MRD := fun x vs G Q => match x, vs with
  | .str z, [.str y] => (y.length == 0) = false ∧ z.length ≤ sizeLine ∧ Q (.tup [.str (Txt.partition z y).1, .str (Txt.partition z y).2.1, .str (Txt.partition z y).2.2]) G
  | _, _ => False
theorem m_partition : MtD X "str.partition" partitionD := ⟨_, mt_partition, fun H G v vs d ds Q R s r rs h k => by
  unfold partitionD at h
  split at h
  · rename_i z y
    rw [rep_str] at r
    obtain ⟨w, rfl, ry⟩ := reps1 rs
    rw [rep_str] at ry
    refine ⟨z, y, r, by rw [ry], h.1, h.2.1, fun p hp => ?_⟩
    refine k _ _ _ G ⟨.new hp, s.skip hp⟩ ?_ h.2.2
    rw [rep_tup]
    exact ⟨p, _, rfl, SqT.of upd_same, .cons (by rw [rep_str]) (.cons (by rw [rep_str]) (.one (by rw [rep_str])))⟩
  · exact h.elim⟩
def joinD : MRD := fun x vs G Q => match x, vs with
  | .str z, [y] => ∃ ys : List Str, SeqG G y (ys.map D.str) ∧ (ys.map (·.length)).sum + ys.length * z.length ≤ 16777216 ∧ Q (.str (Txt.join z ys)) G
  | _, _ => False
theorem m_join : MtD X "str.join" joinD := ⟨_, mt_join, fun H G v vs d ds Q R s r rs h k => by
  unfold joinD at h
  split at h
  · rename_i z y
    rw [rep_str] at r
    obtain ⟨w, rfl, ry⟩ := reps1 rs
    obtain ⟨ys, sq, hz, q⟩ := h
    obtain ⟨a, xs, rfl, hs, rx⟩ := sq.get s ry
    have e := reps_str rx
    subst e
    exact ⟨z, a, ys, r, rfl, hs, hz, k _ H _ G (.refl s) (by rw [Rep]) q⟩
  · exact h.elim⟩
theorem m_startswith : MtD X "str.startswith" (str1 (fun _ _ => True) fun z y => .bl (Txt.startswith z y)) := ⟨_, mt_startswith, fun H G v vs d ds Q R s r rs h k => by
  unfold str1 at h
  split at h
  · rename_i z y
    rw [rep_str] at r
    obtain ⟨w, rfl, ry⟩ := reps1 rs
    rw [rep_str] at ry
    exact ⟨z, y, r, by rw [ry], k _ H _ G (.refl s) (by rw [Rep]) h.2⟩
  · exact h.elim⟩
theorem m_removeprefix : MtD X "str.removeprefix" (str1 (fun z _ => z.length ≤ sizeLine) fun z y => .str (Txt.removeprefix z y)) := ⟨_, mt_removeprefix, fun H G v vs d ds Q R s r rs h k => by
  unfold str1 at h
  split at h
  · rename_i z y
    rw [rep_str] at r
    obtain ⟨w, rfl, ry⟩ := reps1 rs
    rw [rep_str] at ry
    exact ⟨z, y, r, by rw [ry], h.1, k _ H _ G (.refl s) (by rw [Rep]) h.2⟩
  · exact h.elim⟩
/-- x or y by truth -/
theorem d_orT (ha : PEd X H0 a ta) (hb : PEd X H0 (.BoolOp .Or (b :: rest) pos) tb) : PEd X H0 (.BoolOp .Or (a :: b :: rest) pos) (dOrT ta tb) :=
  PE.imp (pe_orT ha hb) fun σ H R ⟨G, δ, Q, s, h, q⟩ => ⟨G, δ, _, s, h, fun v H1 d G1 v1 r1 h1 => by
    obtain ⟨k, tr, h2⟩ := truD_ok v1.sm r1 h1
    refine ⟨k, tr, ?_⟩
    cases k with
    | true => exact q _ H1 _ G1 v1 r1 h2
    | false => exact ⟨G1, δ, Q, s.step v1, h2, fun w H2 e G2 v2 => q w H2 e G2 (v1.trans v2)⟩⟩
/-! f-texts -/
def fmtD (x : D) (G : GH) (Q : QK) : Prop := match x with
  | .str y => y.length ≤ sizeLine ∧ Q (.str y) G
  | .int i => i.natAbs.log2 < 1920 ∧ Q (.str (toString i)) G
  | _ => False
def dFmt (ta : ED) : ED := fun δ G Q => ta δ G fun x G1 => fmtD x G1 Q
theorem d_fmt (ha : PEd X H0 e ta) : PEd X H0 (.FormattedValue e (-1) none pos) (dFmt ta) := PE.imp (pe_fmt ha) fun σ H R ⟨G, δ, Q, s, h, q⟩ => ⟨G, δ, _, s, h, fun v H1 d G1 v1 r1 h1 => by
  unfold fmtD at h1
  split at h1
  · rw [rep_str] at r1
    exact .inl ⟨_, r1, h1.1, q _ H1 _ G1 v1 (by rw [Rep]) h1.2⟩
  · rw [rep_int] at r1
    exact .inr ⟨_, r1, h1.1, q _ H1 _ G1 v1 (by rw [Rep]) h1.2⟩
  · exact h1.elim⟩
inductive PJd (X : Cx) (H0 : Hp) : List Expr → List ED → Prop where
  | nil : PJd X H0 [] []
  | cons {e : Expr} {t : ED} {es : List Expr} {ts : List ED} (h : PEd X H0 e t) (r : PJd X H0 es ts) : PJd X H0 (e :: es) (t :: ts)
theorem PJd.pj {es : List Expr} {ts : List ED} (h : PJd X H0 es ts) : PJ X es (ts.map (star X.K X.mg H0)) := by
  induction h with
  | nil => exact .nil
  | cons h r ih => exact .cons h ih
def dJs : List ED → Str → SD → GH → (Str → GH → Prop) → Prop
  | [], acc, _, G, Q => Q acc G
  | t :: ts, acc, δ, G, Q => t δ G fun x G1 => match x with | .str y => (acc ++ y).length ≤ sizeLine ∧ dJs ts (acc ++ y) δ G1 Q | _ => False
def dJoined (ts : List ED) : ED := fun δ G Q => dJs ts Str.empty δ G fun out G1 => Q (.str out) G1
theorem js_ok {K : PySem.W.Frag} {mg : Str → Option Value} {δ : SD} {σ : L2.St} {Q : Str → GH → Prop} {R : Str → Hp → Prop} : ∀ (ts : List ED) (acc : Str) (H : Hp) (G : GH), StOk K mg H0 H σ δ G → dJs ts acc δ G Q → (∀ out H' G', VOk K mg H H' G' → Q out G' → R out H') → tJs (ts.map (star K mg H0)) acc σ H R
  | [], acc, H, G, s, h, k => k acc H G s.vok h
  | t :: ts, acc, H, G, s, h, k => by
    refine ⟨G, δ, _, s, h, fun v H1 d G1 v1 r1 h1 => ?_⟩
    cases d with
    | str y =>
      rw [rep_str] at r1
      exact ⟨y, r1, h1.1, js_ok ts _ H1 G1 (s.step v1) h1.2 fun out H' G' v2 => k out H' G' (v1.trans v2)⟩
    | _ => exact h1.elim
theorem d_joined {v1 v2 : Expr} {rest : List Expr} {ts : List ED} (h : PJd X H0 (v1 :: v2 :: rest) ts) : PEd X H0 (.JoinedStr (v1 :: v2 :: rest) pos) (dJoined ts) :=
  PE.imp (pe_joined h.pj) fun σ H R ⟨G, δ, Q, s, h, q⟩ => js_ok ts _ H G s h fun out H' G' v hq => q _ H' _ G' v (by rw [Rep]) hq
end
end Q
set_option maxHeartbeats 4000000
/-! QK: promises by arity, facts of the module -/
namespace Q
open PySem PySem.Spec PyProof.Rows L2
/-- promises of one, two, .. places -/
def sp0 (f : GH → QK → XD → Prop) : DSp := fun ds G Q E => match ds with | [] => f G Q E | _ => False
def sp1 (f : D → GH → QK → XD → Prop) : DSp := fun ds G Q E => match ds with | [a] => f a G Q E | _ => False
def sp2 (f : D → D → GH → QK → XD → Prop) : DSp := fun ds G Q E => match ds with | [a, b] => f a b G Q E | _ => False
def sp3 (f : D → D → D → GH → QK → XD → Prop) : DSp := fun ds G Q E => match ds with | [a, b, c] => f a b c G Q E | _ => False
def sp4 (f : D → D → D → D → GH → QK → XD → Prop) : DSp := fun ds G Q E => match ds with | [a, b, c, d] => f a b c d G Q E | _ => False
def sp5 (f : D → D → D → D → D → GH → QK → XD → Prop) : DSp := fun ds G Q E => match ds with | [a, b, c, d, e] => f a b c d e G Q E | _ => False
/-- a def of the module's top -/
structure FunH (K : PySem.W.Frag) (mg : Str → Option Value) (x : Str) (st : Stmt) : Prop where
  ex : ∃ f fd, Fun K x x st f fd ∧ mg x = some (.ref f)
/-- how n arguments bind -/
abbrev BindN (x : Str) (st : Stmt) (ps : List Str) : Prop := ∀ (kV doc pm : Value) (an : Option Addr) (cdv ct : Value) (us : List Value), us.length = ps.length → bindArgs (PySem.W.fnOf x x (defArgs st) (defBody st) (defScope st) .none kV doc pm an cdv ct) ⟨us, []⟩ = pure (ps.zip us)
section
variable {P : Program} {w : World} {K : PySem.W.Frag} {mg : Str → Option Value} {base : Heap}
/-- the context of a def's body -/
abbrev bx (P : Program) (w : World) (K : PySem.W.Frag) (mg : Str → Option Value) (base : Heap) (N : List Str) (x : Str) (st : Stmt) (f : Addr) (cdv : Value) (A : Around) (outer : List Env) (s : Shared) (H : Hp) (E : XK) : Cx := cxOf (L2.CX P w) P w K mg base N x (defScope st) f cdv A outer s H E
abbrev Body (P : Program) (w : World) (K : PySem.W.Frag) (mg : Str → Option Value) (base : Heap) (k : Nat) (x : Str) (st : Stmt) (N : List Str) (sp : DSp) : Prop :=
  ∀ (f : Addr) (cdv : Value) (A : Around) (outer : List Env) (s : Shared) (H : Hp) (E : XK) (ds : List D) (G : GH) (Q : QK) (Ed : XD), Bod (bx P w K mg base N x st f cdv A outer s H E) H (fun c fs _ G' => Ed c fs G') k →
    PassesOwn (model P w) (bx P w K mg base N x st f cdv A outer s H E).A (bx P w K mg base N x st f cdv A outer s H E).env (bx P w K mg base N x st f cdv A outer s H E).xe → sp ds G Q Ed →
    ∃ t, PSsd (bx P w K mg base N x st f cdv A outer s H E) H (defBody st) t ∧ t { nx := fun _ G' => Q .non G', rt := Q } (startD N ds) G
theorem Has.ofBody {x : Str} {st : Stmt} {N ps : List Str} {k : Nat} {sp : DSp} (F : FunH K mg x st) (S : FnScope N ps (defScope st)) (hb : BindN x st ps) (len : ∀ ds G Q E, sp ds G Q E → ds.length = ps.length) (body : Body P w K mg base k x st N sp) : Has P w K mg base (k + 1) x ps.length [] sp := by
  obtain ⟨f, fd, F, hm⟩ := F.ex
  exact Has.mk' (sp := sp) (n := ps.length) F hm S (F.binds hb) .nil (fun _ => .nil) rfl len fun cdv A outer s H E ds G Q Ed B hp h => body f cdv A outer s H E ds G Q Ed B hp h
theorem len1 {f : D → GH → QK → XD → Prop} : ∀ ds G Q E, sp1 f ds G Q E → ds.length = 1 := fun ds G Q E h => by unfold sp1 at h; split at h; rfl; exact h.elim
theorem len2 {f : D → D → GH → QK → XD → Prop} : ∀ ds G Q E, sp2 f ds G Q E → ds.length = 2 := fun ds G Q E h => by unfold sp2 at h; split at h; rfl; exact h.elim
theorem len3 {f : D → D → D → GH → QK → XD → Prop} : ∀ ds G Q E, sp3 f ds G Q E → ds.length = 3 := fun ds G Q E h => by unfold sp3 at h; split at h; rfl; exact h.elim
theorem len4 {f : D → D → D → D → GH → QK → XD → Prop} : ∀ ds G Q E, sp4 f ds G Q E → ds.length = 4 := fun ds G Q E h => by unfold sp4 at h; split at h; rfl; exact h.elim
theorem len5 {f : D → D → D → D → D → GH → QK → XD → Prop} : ∀ ds G Q E, sp5 f ds G Q E → ds.length = 5 := fun ds G Q E h => by unfold sp5 at h; split at h; rfl; exact h.elim
theorem sp1_ex {f : D → GH → QK → XD → Prop} {ds : List D} {G : GH} {Q : QK} {E : XD} (h : sp1 f ds G Q E) : ∃ a, ds = [a] ∧ f a G Q E := by unfold sp1 at h; split at h; exact ⟨_, rfl, h⟩; exact h.elim
theorem sp2_ex {f : D → D → GH → QK → XD → Prop} {ds : List D} {G : GH} {Q : QK} {E : XD} (h : sp2 f ds G Q E) : ∃ a b, ds = [a, b] ∧ f a b G Q E := by unfold sp2 at h; split at h; exact ⟨_, _, rfl, h⟩; exact h.elim
theorem sp3_ex {f : D → D → D → GH → QK → XD → Prop} {ds : List D} {G : GH} {Q : QK} {E : XD} (h : sp3 f ds G Q E) : ∃ a b c, ds = [a, b, c] ∧ f a b c G Q E := by unfold sp3 at h; split at h; exact ⟨_, _, _, rfl, h⟩; exact h.elim
theorem sp4_ex {f : D → D → D → D → GH → QK → XD → Prop} {ds : List D} {G : GH} {Q : QK} {E : XD} (h : sp4 f ds G Q E) : ∃ a b c d, ds = [a, b, c, d] ∧ f a b c d G Q E := by unfold sp4 at h; split at h; exact ⟨_, _, _, _, rfl, h⟩; exact h.elim
theorem sp5_ex {f : D → D → D → D → D → GH → QK → XD → Prop} {ds : List D} {G : GH} {Q : QK} {E : XD} (h : sp5 f ds G Q E) : ∃ a b c d e, ds = [a, b, c, d, e] ∧ f a b c d e G Q E := by unfold sp5 at h; split at h; exact ⟨_, _, _, _, _, rfl, h⟩; exact h.elim
end
/-- the built-ins' names are free -/
structure Blt (mg : Str → Option Value) : Prop where
  abs : mg "abs" = none
  len : mg "len" = none
  all : mg "all" = none
  any : mg "any" = none
  sum : mg "sum" = none
  max : mg "max" = none
  min : mg "min" = none
  divmod : mg "divmod" = none
  isinstance : mg "isinstance" = none
  list : mg "list" = none
  tuple : mg "tuple" = none
  str : mg "str" = none
  int : mg "int" = none
  bool : mg "bool" = none
  dict : mg "dict" = none
  set : mg "set" = none
  range : mg "range" = none
  enumerate : mg "enumerate" = none
  zip : mg "zip" = none
  sorted : mg "sorted" = none
  repr : mg "repr" = none
/-- a constant of the module -/
def GC (K : PySem.W.Frag) (mg : Str → Option Value) (x : Str) (d : D) : Prop := ∃ u, mg x = some u ∧ KC K d u
theorem d_gc {X : Cx} {H0 : Hp} {x : Str} {pos : Pos} {d : D} (h : GC X.K X.mg x d) (hg : Gl X x := by rfl) (hd : (x == ("__debug__" : Str)) = false := by decide) : PEd X H0 (.Name x pos) (dC d) := by
  obtain ⟨u, hm, r⟩ := h
  exact d_glob hm r hg hd
end Q
set_option maxHeartbeats 4000000
/-! QL: the head's facts, the law's end -/
namespace Q
open PySem PySem.Spec PyProof.Rows L2
/-! ### what the head tells -/
abbrev AlQ : Type := He.AlD × Bool
def frK (n : Nat) (g : Addr → Option Obj) : PySem.W.Frag := He.frG g (He.asD g n)
def obsQ (n : Nat) (fa : List He.Fa) (fn : List He.DefD) (ex : PySem.W.Frag → Bool) (g : Addr → Option Obj) : AlQ := (He.obsD fa fn (frK n g), ex (frK n g))
structure SaysQ (fa : List He.Fa) (fn : List He.DefD) (ex : PySem.W.Frag → Bool) (K : PySem.W.Frag) : Prop where
  d : He.SaysD fa fn K
  x : ex K = true
def hookQ (n : Nat) (fa : List He.Fa) (fn : List He.DefD) (ex : PySem.W.Frag → Bool) : PySem.W.Hook where
  α := AlQ
  obs := fun s => obsQ n fa fn ex s.heap.get?
  val := fun _ => (He.valD fn, true)
  says := fun _ h => ∃ K : PySem.W.Frag, K.In h ∧ SaysQ fa fn ex K
  of := fun _ s e => ⟨frK n s.heap.get?, He.frG_in, congrArg (fun z : AlQ => z.1) e, congrArg (fun z : AlQ => z.2) e⟩
  keeps := fun _ _ _ ⟨K, hK, c⟩ k => ⟨K, PySem.W.Frag.In.keeps hK k, c⟩
theorem obsQ_eq {n : Nat} {fa : List He.Fa} {fn : List He.DefD} {ex : PySem.W.Frag → Bool} {g : Addr → Option Obj} {s : Shared} (h : ∀ a, g a = s.heap.get? a) : obsQ n fa fn ex g = (hookQ n fa fn ex).obs s := by
  have e : g = s.heap.get? := funext h
  rw [e]
  rfl
/-! ### a law is called -/
section
variable {P : Program} {w : World} {K : PySem.W.Frag} {mg mb : Str → Option Value} {k : Nat} {fa a : Addr} {fd : FuncData} {x : Str} {sp : Sp} {s1 : Shared} {vs : List Value} {ns : List Int}
/-- the answer of a law's call -/
abbrev LawR (s1 : Shared) (r : Result) (s' : Shared) : Prop := r = .ok (.ret (.bool true)) ∧ OldK s1.heap s'.heap ∧ s'.os = s1.os ∧ AllBare s'.gens
theorem law_core (KX : K.In s1.heap) (hns : s1.heap.Ns mainGlobals mg) (hb : s1.heap.Ns builtinsNs mb) (hbb : ∀ x : Str, x ≠ "__name__" → mb x = bootBuiltins x) (hlim : s1.heap.NoLimit) (hg : s1.gens = #[])
    (hr : Room k callerA) (F : ∀ base : Heap, K.In base → base.Ns mainGlobals mg → FnG P w K mg base k fa fd [x] sp) (hbind : ∀ (s : Shared) (u : Value), BindsTo s fd ⟨[u], []⟩ [(x, u)])
    (ha : s1.heap.get? a = some { cls := .type "list", data := .seq vs.toArray }) {H : Hp} (hO : ∀ b, H b = none ∨ (b = a ∧ ∃ o xs, H b = some (.frz o (.lst xs)))) (hK : H a ≠ none → K.lookup a = none) (hok : HOk P w H s1.heap)
    (hsp : sp [.ref a] H (fun v _ => v = .bl true) fun _ _ _ => False) : codeAny (model P w) callerA (.call (.ref fa) ⟨[.ref a], []⟩) (LawR s1) s1 := by
  have dictFree : ∀ {b : Addr} {o : Obj} {es : Array DictEntry} {ep : Nat}, s1.heap.get? b = some o → o.data = .dict es ep → H b = none := fun {b o es ep} e d => by
    rcases hO b with z | ⟨rfl, _⟩
    · exact z
    · rw [ha] at e
      cases e
      exact nomatch (show Data.seq vs.toArray _ = Data.dict es ep from d)
  have ns : ∀ {b : Addr} {m : Str → Option Value}, s1.heap.Ns b m → (hidT s1.heap H).Ns b m := fun {b m} ⟨o, es, ep, e, d, r⟩ => ⟨o, es, ep, hidT_get e (dictFree e d), d, r⟩
  have KB : K.In (hidT s1.heap H) := fun b o e => hidT_get (KX b o e) (by
    rcases hO b with z | ⟨rfl, ob, xs, z⟩
    · exact z
    · rw [hK (by rw [z]; exact fun q => nomatch q)] at e
      cases e)
  obtain ⟨mc, l1, l2⟩ := hlim
  have M : Mod K mg (hidT s1.heap H) := ⟨KB, ns hns, ⟨mb, ns hb, hbb⟩, mc, ns l1, l2⟩
  have E0 : Env0 P w K mg (hidT s1.heap H) callerA [] s1 H := ⟨rfl, M, fun b o e => of_hidT e, Nat.le_of_eq (hidT_size _ _), trivial, (fun b z => absurd (show b ∈ ([] : List Addr) from z) (by simp)), hok, .of_eq hg⟩
  have R := (F _ KB (ns hns)).run callerA [] s1 H ⟨[.ref a], []⟩ [.ref a] [.ref a] _ _ hr rfl E0 (hbind s1 (.ref a)) (.cons rfl .nil) hsp
  refine codeAny_mono R fun r s' h => ?_
  cases r with
  | error e =>
    obtain ⟨_, _, _, _, _, _, _, _, _, _, _, _, z⟩ := h
    exact z.elim
  | ok fl =>
    cases fl with
    | ret u =>
      obtain ⟨v, H', os, bare, un, hok', r', q⟩ := h
      have q' : v = .bl true := q
      subst q'
      obtain rfl : u = Value.bool true := r'
      refine ⟨rfl, OldK.of_keep fun b o e => ?_, os, bare⟩
      rcases hO b with z | ⟨rfl, ob, xs, z⟩
      · exact un.keep b o e z (fun y => absurd (show b ∈ ([] : List Addr) from y) (by simp)) (by simp)
      · have e1 := (hok b _ z).1
        have e2 := (hok' b _ (un.frzs b ob _ z)).1
        rw [e] at e1
        cases e1
        exact e2
    | next => exact False.elim h
    | brk => exact False.elim h
    | cont => exact False.elim h
theorem law_g (KX : K.In s1.heap) (hns : s1.heap.Ns mainGlobals mg) (hb : s1.heap.Ns builtinsNs mb) (hbb : ∀ x : Str, x ≠ "__name__" → mb x = bootBuiltins x) (hlim : s1.heap.NoLimit) (hg : s1.gens = #[])
    (hr : Room k callerA) (F : ∀ base : Heap, K.In base → base.Ns mainGlobals mg → FnG P w K mg base k fa fd [x] sp) (hbind : ∀ (s : Shared) (u : Value), BindsTo s fd ⟨[u], []⟩ [(x, u)])
    (ha : s1.heap.get? a = some { cls := .type "list", data := .seq vs.toArray }) (hi : IntsAre vs ns) (hl : ns.length ≤ sizeLine)
    (hsp : ∀ H : Hp, FrL K H a (ns.map V.int) → sp [.ref a] H (fun v _ => v = .bl true) fun _ _ _ => False) : codeAny (model P w) callerA (.call (.ref fa) ⟨[.ref a], []⟩) (LawR s1) s1 := by
  have rv := vals_ints hi
  have lv := hi.length
  cases hk : K.lookup a with
  | some o =>
    have e := KX a o hk
    rw [ha] at e
    cases e
    have S : SqL K (fun _ => none) a (ns.map V.int) := .inr ⟨_, vs.toArray, _, hk, rfl, rfl, rfl, by rw [List.size_toArray, lv]; exact hl, by simpa using rv⟩
    exact law_core KX hns hb hbb hlim hg hr F hbind ha (H := fun _ => none) (fun _ => .inl rfl) (fun z => absurd rfl z) (fun b u z => nomatch (show (none : Option HO) = some u from z)) (hsp _ (.inr S))
  | none =>
    let H : Hp := fun b => if b = a then some (.frz { cls := .type "list", data := .seq vs.toArray } (.lst (ns.map V.int))) else none
    have Ha : H a = some (.frz { cls := .type "list", data := .seq vs.toArray } (.lst (ns.map V.int))) := if_pos rfl
    have Hn : ∀ b, b ≠ a → H b = none := fun b z => if_neg z
    refine law_core KX hns hb hbb hlim hg hr F hbind ha (H := H) (fun b => ?_) (fun _ => hk) (fun b u z => ?_) (hsp H (.inl ⟨_, Ha⟩))
    · by_cases e : b = a
      · exact .inr ⟨e, _, _, by rw [e]; exact Ha⟩
      · exact .inl (Hn b e)
    · by_cases e : b = a
      · subst e
        rw [Ha] at z
        cases z
        exact ⟨ha, by rw [List.length_map]; exact hl, vs, _, rv, ha⟩
      · rw [Hn b e] at z
        cases z
end
/-- a law's end: its def answers True at every script -/
theorem walk_g {l : PySem.W.OpenLaw} {n k : Nat} {q : Program} {loose : List Str} {XP : (Str → Option Value) → Heap → Prop} {YP : World → Heap → Prop} {d : DefRec} {x : Str} (hn : l.most = some n) (hn2 : n ≤ sizeLine) (hdf : d.params.defaults = []) (hr : Room k callerA)
    (F : ∀ (w : World) (mg : Str → Option Value) (h : Heap), YP w h → h.Ns mainGlobals mg → ∃ K : PySem.W.Frag, K.In h ∧ (∃ f fd, mg d.name = some (.ref f) ∧ (∀ (s : Shared) (u : Value), BindsTo s fd ⟨[u], []⟩ [(x, u)]) ∧
      ∀ base : Heap, K.In base → base.Ns mainGlobals mg → FnG l.prog w K mg base k f fd [x] (liftSp K mg (sp1 fun a G Q _ => (∃ ns : List Int, a = .rol (ns.map D.int) ∧ ns.length ≤ n) ∧ ∀ G', Q (.bl true) G')))) :
    PySem.W.WalkO q loose XP YP l.row.toRowW d [] (fun f vs => PySem.call f vs) := by
  refine Att.attach_call hn hdf fun w s0 s1 mg mb fa o pm cd doc a vs ns G Y ho hd hcd hmg hobj hints hlen hg => ?_
  obtain ⟨K, KX, f, fd, hf, hb, hF⟩ := F w mg _ Y G.T.g
  rw [hmg] at hf
  cases hf
  refine law_g KX G.T.g G.T.b G.T.builtins G.T.nolimit hg hr hF hb hobj hints (Nat.le_trans hlen hn2) fun H fr => ?_
  refine ⟨[.rol (ns.map D.int)], fun _ => none, fun d _ => d = .bl true, fun _ _ _ => False, .one ?_, fun a o e => (nomatch e), ⟨⟨ns, rfl, hlen⟩, fun _ => rfl⟩, fun v H' d G' _ r e => ?_, fun c fs C d H' G' _ _ _ z => z⟩
  · rw [rep_rol]
    exact ⟨a, _, rfl, fr, mk_int⟩
  · subst e
    rw [rep_bl] at r
    exact r
end Q
set_option maxHeartbeats 4000000
/-! QS: len(set(..)), list(range(..)), repr, targets with a star -/
namespace Q
open PySem PySem.Spec PyProof.Rows L2
instance : LawfulBEq Key where
  eq_of_beq {a b} h := match a, b, h with
    | .inl i, .inl j, h => congrArg Sum.inl (eq_of_beq (a := i) (b := j) h)
    | .inr i, .inr j, h => congrArg Sum.inr (eq_of_beq (a := i) (b := j) h)
    | .inl i, .inr j, h => Bool.noConfusion (show false = true from h)
    | .inr i, .inl j, h => Bool.noConfusion (show false = true from h)
  rfl {a} := match a with
    | .inl i => beq_self_eq_true i
    | .inr i => beq_self_eq_true i
/-- how many unlike ones -/
def cntK : List Key → Nat
  | [] => 0
  | k :: r => if k ∈ r then cntK r else cntK r + 1
theorem cntK_le : ∀ l : List Key, cntK l ≤ l.length
  | [] => Nat.le_refl _
  | k :: r => by
    have := cntK_le r
    unfold cntK
    split <;> simp <;> omega
theorem cntK_eq : ∀ l : List Key, cntK l = l.length ↔ l.Nodup
  | [] => by simp [cntK]
  | k :: r => by
    have := cntK_le r
    have := cntK_eq r
    unfold cntK
    split
    · rename_i h
      simp [h]; omega
    · rename_i h
      simp [h, this]
def fs0 (led : Bool) : Obj := { cls := .type "set", dict := none, data := .set #[] 0 (.fresh 0 0 led) }
section
variable {prog : Program} {w : World} {A : Around} {R : Result → Shared → Prop} {I : Addr} {fp wr : List Addr} {G : Array GenState → Array GenState → Prop} {n : Nat} {P : Nat → Value → Prop} {St : Nat → Shared → Prop} {E : Value → Shared → Prop} {s : Shared}
theorem loopK (W : WalksS prog w A.in1 I fp wr G n P St) (S : Addr) (hSf : S ∉ fp) (ks : List Key) (hsz : ks.length = n) (hb : ks.length + 1 < scanBound) (hval : ∀ i v k, P i v → ks[i]? = some k → RelV (kV k) v) :
    ∀ (m i : Nat) (s : Shared), n - i = m → i ≤ n → St i s → s.heap.SetOf (mixKind prog w) S (fun k' => (ks.take i).any (· == k')) (cntK (ks.take i).reverse) →
      (∀ s', Moved (S :: wr) G s s' → s'.heap.SetOf (mixKind prog w) S (fun k' => ks.any (· == k')) (cntK ks.reverse) → R (.ok (.ret .none)) s') →
      codeAny (model prog w) A (.builtin "set.update.loop" ⟨[.ref S, .ref I], []⟩) R s := by
  have hSw : S ∉ wr := fun h => hSf (W.sub _ h)
  have up : ∀ b ∈ wr, b ∈ S :: wr := fun b hb => .tail _ hb
  intro m
  induction m with
  | zero =>
    intro i s hk hi hst hS hR
    obtain rfl : i = n := by omega
    refine codeAny_builtin PyProof.Rows.F.entry_set_update_loop ?_; rw [Around.under_plainId PyProof.Rows.F.plain_set_update_loop _]
    refine (show wpAny _ A.in1 (pyNext (.ref I) >>= _) _ _ s from wpAny_bind (W.done s _ _ hst fun s' hm => (show wpAny _ A.in1 (ret Value.none) _ _ s' from wpAny_pure (hR s' (hm.mono up) ?_))))
    rw [List.take_of_length_le (by omega)] at hS
    obtain ⟨o, es, ep, t, ho, rest⟩ := hS
    exact ⟨o, es, ep, t, hm.heap S _ hSw ho, rest⟩
  | succ m ih =>
    intro i s hk hi hst hS hR
    have hlt : i < n := by omega
    have hx : ks[i]? = some (ks[i]'(by omega)) := by simp [hsz, hlt]
    generalize ks[i]'(by omega) = x at hx
    refine codeAny_builtin PyProof.Rows.F.entry_set_update_loop ?_; rw [Around.under_plainId PyProof.Rows.F.plain_set_update_loop _]
    refine (show wpAny _ A.in1 (pyNext (.ref I) >>= _) _ _ s from wpAny_bind (W.item i s _ _ hlt hst fun v s' hP hst' hm => ?_))
    have rx := hval i v x hP hx
    have hS' : s'.heap.SetOf (mixKind prog w) S (fun k' => (ks.take i).any (· == k')) (cntK (ks.take i).reverse) := by
      obtain ⟨o, es, ep, tb, ho, rest⟩ := hS
      exact ⟨o, es, ep, tb, hm.heap S _ hSw ho, rest⟩
    show wpAny _ A.in1 (holding [v] (setAdd S v) >>= _) _ _ s'
    refine wpAny_bind (wpAny_holding ?_)
    unfold setAdd
    have hc := cntK_le (ks.take i).reverse
    rw [List.length_reverse, List.length_take] at hc
    refine wpAny_holding (wpAny_bind ((mixKind prog w).pyHash (k := x) (kV_is rx) (wpAny_setAddHashed_of (knd := mixKind prog w) (s := { s' with toks := s'.toks + 1 }) (kV_is rx) (key_scan rx) hS' (by omega) fun h' hsb hS2 => ?_)))
    have et : ks.take (i + 1) = ks.take i ++ [x] := by rw [List.take_add_one, hx]; rfl
    have hSi : h'.SetOf (mixKind prog w) S (fun k' => (ks.take (i + 1)).any (· == k')) (cntK (ks.take (i + 1)).reverse) := by
      refine SetOf_congr hS2 (fun k' => ?_) ?_
      · rw [et, List.any_append]
        have : ([x].any (· == k')) = decide (k' = x) := by
          rw [List.any_cons, List.any_nil, Bool.or_false]
          by_cases e : k' = x
          · subst e; simp
          · simp [e, Ne.symm e]
        rw [this]
      · rw [et, List.reverse_append, List.reverse_singleton, List.singleton_append, cntK]
        have : (x ∈ (ks.take i).reverse) = ((ks.take i).any (· == x) = true) := by simp
        simp only [this]
    refine wpAny_pure ⟨plainId_quiet PyProof.Rows.F.plain_set_update_loop _, ih (i + 1) _ (by omega) hlt (W.frame _ s' _ _ hst' (Nat.le_succ _) fun b hb o e => ?_) hSi fun s'' hm'' hS'' => ?_⟩
    · rw [hsb.2 b (fun h : b = S => hSf (by rw [← h]; exact hb))]; exact e
    · refine hR s'' (Moved.trans W.gtrans ((hm.mono up).then_heap (Nat.le_succ _) fun b o hb e => ?_) hm'') hS''; rw [hsb.2 b (fun h : b = S => hb (by rw [h]; exact List.mem_cons_self))]; exact e

set_option maxHeartbeats 3200000 in
theorem setk_list {l : Addr} {its : Array Value} {ks : List Key} {Q : Value → Shared → Prop} (hh : A.handled = none) (hl : s.heap.IsList l its) (hz : ks.length = its.size) (hb : ks.length + 1 < scanBound)
    (hv : ∀ (i : Nat) (v : Value) k, its[i]? = some v → ks[i]? = some k → RelV (kV k) v)
    (h : ∀ (h' : Heap) (tk : Nat), h'.SetOf (mixKind prog w) s.heap.objs.size (fun k' => ks.any (· == k')) (cntK ks.reverse) → (∀ b o, b < s.heap.objs.size → s.heap.get? b = some o → h'.get? b = some o) → Q (.ref s.heap.objs.size) { s with heap := h', toks := tk }) :
    wpAny (model prog w) A (call (.type "set") [.ref l]) Q E s := by
  obtain ⟨c, tl, hmro⟩ := PySem.F.called_set.mro; have hmade := PySem.F.called_set.made; have hsub := PySem.F.called_set.sub
  refine wpAny_call (codeAny_of_tree (show wpAny _ _ (callAny (.type "set") _) _ _ _ from wpAny_pure ⟨Code.quiet_builtin _ (by decide +kernel), codeAny_builtin PySem.F.entry_type_call ?_⟩))
  rw [Around.under_plain (weight_type_call_type "set" [.ref l] []) rfl]; have h1 := PySem.F.called_set.notType; have h2 := PySem.F.called_set.canCreate
  have hct := PySem.F.typeCall_set_1 (.ref l)
  repeat (any_goals (first | assumption | wp_step))
  refine codeAny_mono (code_set_new_1 (.ref l) (E := E) (Q₁ := fun obj s₁ => ∃ led : Bool, obj = .ref s.heap.objs.size ∧ s₁ = { s with heap := s.heap.push (fs0 led) }) fun led => ⟨led, rfl, rfl⟩) fun r s₁ hr => ?_
  cases r with
  | error e => exact hr
  | ok fl =>
    cases fl with
    | ret obj =>
      obtain ⟨led, rfl, rfl⟩ := hr
      have hS : (s.heap.push (fs0 led)).get? s.heap.objs.size = some (fs0 led) := Heap.get?_push_size _ rfl
      have hT : Shared.TypeIs { s with heap := s.heap.push (fs0 led) } (.ref s.heap.objs.size) "set" := ⟨_, hS, rfl⟩
      have hli := PySem.F.called_set.init.lookup; have hbi := PySem.F.called_set.init.bind (.ref s.heap.objs.size)
      repeat (any_goals (first | assumption | wp_step))
      refine codeAny_mono (codeAny_call_builtin (R := wants (fun r s₂ => r = .none ∧ ∃ h' tk, s₂ = { s with heap := h', toks := tk } ∧ h'.SetOf (mixKind prog w) s.heap.objs.size (fun k' => ks.any (· == k')) (cntK ks.reverse) ∧
          (∀ b o, b < s.heap.objs.size → s.heap.get? b = some o → h'.get? b = some o)) E) PySem.F.called_set.init.plain PySem.F.entry_set_init (check_set_init_1 hT ?_)) fun r₂ s₂ hr₂ => ?_
      · have hlS : l < s.heap.objs.size := by obtain ⟨o, e, _⟩ := hl; exact Heap.lt_size e
        have hl1 : (s.heap.push (fs0 led)).IsList l its := by obtain ⟨o, e, r⟩ := hl; exact ⟨o, Heap.get?_push_of_some _ e, r⟩
        obtain ⟨⟨ocls, odict, odata, oslots⟩, hol, hcl, hdl⟩ := id hl1
        simp only at hcl hdl
        first | (obtain ⟨nl, hdl⟩ := hdl) | skip
        subst hcl; subst hdl
        have hsls := PySem.F.sub_list_set; have hslf := PySem.F.sub_list_frozenset
        have hne : (Value.type "list" == Value.type "dict") = false := by decide
        unfold Builtin.«set.__init__» noKeywords Builtin.Frozenset.updateFrom; generalize hPI : pyIter = PI
        wp_walk
        subst hPI
        refine wpAny_pyIter_list hl1 (wpAny_bind (wpAny_runValue ?_))
        have hh3 : A.in1.in1.in1.handled = none := by simp [hh]
        have hneI : l ≠ (s.heap.push (fs0 led)).objs.size := by rw [Heap.size_push]; exact Nat.ne_of_lt (Nat.lt_succ_of_lt hlS)
        have hSf : s.heap.objs.size ∉ [(s.heap.push (fs0 led)).objs.size, l] := by
          rw [Heap.size_push]; simp only [List.mem_cons, List.mem_singleton, List.not_mem_nil, or_false, not_or]; exact ⟨Nat.ne_of_lt (Nat.lt_succ_self _), Nat.ne_of_gt hlS⟩
        refine loopK ((Walks.list hh3 _ l hneI its).toS) s.heap.objs.size hSf ks hz hb hv (its.size - 0) 0 _ (by omega) (Nat.zero_le _) ⟨⟨_, Heap.get?_push_size _ rfl, rfl, rfl⟩, (hl1.push _)⟩ ?hS0 ?hR
        case hS0 =>
          have hget : ((s.heap.push (fs0 led)).push { cls := .type "list_iterator", data := .fields #[.ref l, .int 0 0] }).get? s.heap.objs.size = some (fs0 led) := Heap.get?_push_of_some _ hS
          exact PyProof.Rows.SetOf_congr ((PyProof.Rows.setObjOf_fresh (knd := mixKind prog w) led).setOf hget (by show 0 < 4096; decide)) (fun _ => rfl) rfl
        case hR =>
          intro s' hm hS'
          obtain ⟨h', g', d', tk', os'⟩ := s'
          obtain rfl : g' = s.gens := hm.gens
          obtain rfl : d' = s.drawn := hm.drawn
          obtain rfl : os' = s.os := hm.os
          show wpAny _ _ _ _ _ _
          refine wpAny_pure (show wpAny _ _ (ret Value.none) _ _ _ from wpAny_pure ⟨rfl, h', tk', rfl, hS', fun b o hb e => ?_⟩)
          have hb1 : b ≠ s.heap.objs.size := Nat.ne_of_lt hb
          have hb2 : b ≠ (s.heap.push (fs0 led)).objs.size := by rw [Heap.size_push]; exact Nat.ne_of_lt (Nat.lt_succ_of_lt hb)
          exact hm.heap b o (by simp only [List.mem_cons, List.mem_singleton, List.not_mem_nil, or_false, not_or]; exact ⟨hb1, hb2⟩) (Heap.get?_push_of_some _ (Heap.get?_push_of_some _ e))
      · cases r₂ with
        | error e => exact hr₂
        | ok fl₂ =>
          cases fl₂ with
          | ret r =>
            obtain ⟨rfl, h', tk, rfl, hS', hk'⟩ := hr₂
            repeat (any_goals (first | assumption | wp_step))
            exact h _ _ hS' hk'
          | _ => exact hr₂.elim
    | _ => exact hr.elim

set_option maxHeartbeats 3200000 in
theorem setk_tuple {l : Addr} {its : Array Value} {ks : List Key} {Q : Value → Shared → Prop} (hh : A.handled = none) (hl : s.heap.IsTuple l its) (hz : ks.length = its.size) (hb : ks.length + 1 < scanBound)
    (hv : ∀ (i : Nat) (v : Value) k, its[i]? = some v → ks[i]? = some k → RelV (kV k) v)
    (h : ∀ (h' : Heap) (tk : Nat), h'.SetOf (mixKind prog w) s.heap.objs.size (fun k' => ks.any (· == k')) (cntK ks.reverse) → (∀ b o, b < s.heap.objs.size → s.heap.get? b = some o → h'.get? b = some o) → Q (.ref s.heap.objs.size) { s with heap := h', toks := tk }) :
    wpAny (model prog w) A (call (.type "set") [.ref l]) Q E s := by
  obtain ⟨c, tl, hmro⟩ := PySem.F.called_set.mro; have hmade := PySem.F.called_set.made; have hsub := PySem.F.called_set.sub
  refine wpAny_call (codeAny_of_tree (show wpAny _ _ (callAny (.type "set") _) _ _ _ from wpAny_pure ⟨Code.quiet_builtin _ (by decide +kernel), codeAny_builtin PySem.F.entry_type_call ?_⟩))
  rw [Around.under_plain (weight_type_call_type "set" [.ref l] []) rfl]; have h1 := PySem.F.called_set.notType; have h2 := PySem.F.called_set.canCreate
  have hct := PySem.F.typeCall_set_1 (.ref l)
  repeat (any_goals (first | assumption | wp_step))
  refine codeAny_mono (code_set_new_1 (.ref l) (E := E) (Q₁ := fun obj s₁ => ∃ led : Bool, obj = .ref s.heap.objs.size ∧ s₁ = { s with heap := s.heap.push (fs0 led) }) fun led => ⟨led, rfl, rfl⟩) fun r s₁ hr => ?_
  cases r with
  | error e => exact hr
  | ok fl =>
    cases fl with
    | ret obj =>
      obtain ⟨led, rfl, rfl⟩ := hr
      have hS : (s.heap.push (fs0 led)).get? s.heap.objs.size = some (fs0 led) := Heap.get?_push_size _ rfl
      have hT : Shared.TypeIs { s with heap := s.heap.push (fs0 led) } (.ref s.heap.objs.size) "set" := ⟨_, hS, rfl⟩
      have hli := PySem.F.called_set.init.lookup; have hbi := PySem.F.called_set.init.bind (.ref s.heap.objs.size)
      repeat (any_goals (first | assumption | wp_step))
      refine codeAny_mono (codeAny_call_builtin (R := wants (fun r s₂ => r = .none ∧ ∃ h' tk, s₂ = { s with heap := h', toks := tk } ∧ h'.SetOf (mixKind prog w) s.heap.objs.size (fun k' => ks.any (· == k')) (cntK ks.reverse) ∧
          (∀ b o, b < s.heap.objs.size → s.heap.get? b = some o → h'.get? b = some o)) E) PySem.F.called_set.init.plain PySem.F.entry_set_init (check_set_init_1 hT ?_)) fun r₂ s₂ hr₂ => ?_
      · have hlS : l < s.heap.objs.size := by obtain ⟨o, e, _⟩ := hl; exact Heap.lt_size e
        have hl1 : (s.heap.push (fs0 led)).IsTuple l its := by obtain ⟨o, e, r⟩ := hl; exact ⟨o, Heap.get?_push_of_some _ e, r⟩
        obtain ⟨⟨ocls, odict, odata, oslots⟩, hol, hcl, hdl⟩ := id hl1
        simp only at hcl hdl
        first | (obtain ⟨nl, hdl⟩ := hdl) | skip
        subst hcl; subst hdl
        have hsls := PySem.F.sub_tuple_set; have hslf := PySem.F.sub_tuple_frozenset
        have hne : (Value.type "tuple" == Value.type "dict") = false := by decide
        unfold Builtin.«set.__init__» noKeywords Builtin.Frozenset.updateFrom; generalize hPI : pyIter = PI
        wp_walk
        subst hPI
        refine wpAny_pyIter_tuple hl1 (wpAny_bind (wpAny_runValue ?_))
        have hh3 : A.in1.in1.in1.handled = none := by simp [hh]
        have hneI : l ≠ (s.heap.push (fs0 led)).objs.size := by rw [Heap.size_push]; exact Nat.ne_of_lt (Nat.lt_succ_of_lt hlS)
        have hSf : s.heap.objs.size ∉ [(s.heap.push (fs0 led)).objs.size, l] := by
          rw [Heap.size_push]; simp only [List.mem_cons, List.mem_singleton, List.not_mem_nil, or_false, not_or]; exact ⟨Nat.ne_of_lt (Nat.lt_succ_self _), Nat.ne_of_gt hlS⟩
        refine loopK ((Walks.tuple hh3 _ l hneI its).toS) s.heap.objs.size hSf ks hz hb hv (its.size - 0) 0 _ (by omega) (Nat.zero_le _) ⟨⟨_, Heap.get?_push_size _ rfl, rfl, rfl⟩, (hl1.push _)⟩ ?hS0 ?hR
        case hS0 =>
          have hget : ((s.heap.push (fs0 led)).push { cls := .type "tuple_iterator", data := .fields #[.ref l, .int 0 0] }).get? s.heap.objs.size = some (fs0 led) := Heap.get?_push_of_some _ hS
          exact PyProof.Rows.SetOf_congr ((PyProof.Rows.setObjOf_fresh (knd := mixKind prog w) led).setOf hget (by show 0 < 4096; decide)) (fun _ => rfl) rfl
        case hR =>
          intro s' hm hS'
          obtain ⟨h', g', d', tk', os'⟩ := s'
          obtain rfl : g' = s.gens := hm.gens
          obtain rfl : d' = s.drawn := hm.drawn
          obtain rfl : os' = s.os := hm.os
          show wpAny _ _ _ _ _ _
          refine wpAny_pure (show wpAny _ _ (ret Value.none) _ _ _ from wpAny_pure ⟨rfl, h', tk', rfl, hS', fun b o hb e => ?_⟩)
          have hb1 : b ≠ s.heap.objs.size := Nat.ne_of_lt hb
          have hb2 : b ≠ (s.heap.push (fs0 led)).objs.size := by rw [Heap.size_push]; exact Nat.ne_of_lt (Nat.lt_succ_of_lt hb)
          exact hm.heap b o (by simp only [List.mem_cons, List.mem_singleton, List.not_mem_nil, or_false, not_or]; exact ⟨hb1, hb2⟩) (Heap.get?_push_of_some _ (Heap.get?_push_of_some _ e))
      · cases r₂ with
        | error e => exact hr₂
        | ok fl₂ =>
          cases fl₂ with
          | ret r =>
            obtain ⟨rfl, h', tk, rfl, hS', hk'⟩ := hr₂
            repeat (any_goals (first | assumption | wp_step))
            exact h _ _ hS' hk'
          | _ => exact hr₂.elim
    | _ => exact hr.elim

end
section
variable {X : Cx} {H0 : Hp} {a b c tg : Expr} {es rest : List Expr} {pos p : Pos} {ta tb tc : ED} {x : Str} {t : AD}
def kD : Key → D
  | .inl i => .int i
  | .inr x => .str x
theorem reps_key {K : PySem.W.Frag} {H : Hp} : ∀ {ks : List Key} {vs : List V}, Reps K H (ks.map kD) vs → vs = ks.map kV
  | [], vs, r => by simpa [Reps] using r
  | k :: ks, vs, r => by
    rw [List.map_cons, Reps] at r
    obtain ⟨v, r', rfl, h1, h2⟩ := r
    rw [reps_key h2]
    cases k with
    | inl i => rw [kD, rep_int] at h1; rw [h1]; rfl
    | inr i => rw [kD, rep_str] at h1; rw [h1]; rfl
/-- len(set(x)) -/
def dLenSet (ta : ED) : ED := fun δ G Q => ta δ G fun x G1 => ∃ ks : List Key, SeqG G1 x (ks.map kD) ∧ ks.length < 4000 ∧ Q (.int (cntK ks.reverse)) G1
def tLenSetK (K : PySem.W.Frag) (ta : TE) : TE := fun σ H Q => ta σ H fun x H1 => ∃ l, ∃ ks : List Key, x = .ref l ∧ (SqL K H1 l (ks.map kV) ∨ SqT K H1 l (ks.map kV)) ∧ ks.length < 4000 ∧ Q (.int (cntK ks.reverse)) H1
theorem pe_lenSetK {ta : TE} {p p2 q pos : Pos} (hc : X.calm = true) (hg : Gl X "len") (hm : X.mg "len" = none) (hg2 : Gl X "set") (hm2 : X.mg "set" = none) (ha : PE X a ta)
    (na : starEach [a] X.env = (false, eval a X.env) :: starEach [] X.env := by rfl) : PE X (.Call (.Name "len" p) [.Call (.Name "set" p2) [a] [] q] [] pos) (tLenSetK X.K ta) := by
  refine ⟨fun pins s σ H Q I h => Call_ (ld_blt I hg hm boot_len (PyProof.Rows.callWith_builtin1 (PyProof.Rows.args_cons (Call_ (ld_blt I hg2 hm2 boot_set ?_)) rfl) rfl rfl))⟩
  refine PyProof.Rows.callWith_type1 (PyProof.Rows.args_cons (thn (ha.run pins s σ H _ I h) fun v s1 ⟨x, H1, I1, r1, q1⟩ => PyProof.Rows.args_nil ?_) na) na rfl
  obtain ⟨l, ks, rfl, hq, h1, q1⟩ := q1
  cases r1
  have fin : ∀ (its : List Value), ∀ (h' : Heap) (tk : Nat), h'.SetOf (mixKind X.prog X.w) s1.heap.objs.size (fun k' => ks.any (· == k')) (cntK ks.reverse) → (∀ b o, b < s1.heap.objs.size → s1.heap.get? b = some o → h'.get? b = some o) →
      wpAny (model X.prog X.w) X.A (spliced (backTo pos (starEach [] X.env))) (fun vs s₂ => wpAny (model X.prog X.w) X.A (call (.builtin "len") (Value.ref s1.heap.objs.size :: vs)) (EP X pins σ Q) X.xe s₂) X.xe { s1 with heap := h', toks := tk } := fun its h' tk hS hk => by
    refine PyProof.Rows.args_nil ?_
    obtain ⟨o, es, ep, t, ho, hex, hd, _, _, hz, hf, hn⟩ := hS
    have I2 : Inv X pins σ H1 { s1 with heap := h', toks := tk } := I1.kept fun b o e => hk b o (Heap.lt_size e) e
    have hz : es.size < 4096 := hz
    exact call_len_set ho hex hd hf (by omega) ⟨.int (cntK ks.reverse), H1, I2.tok _, ⟨_, by rw [hn]⟩, q1⟩
  have bd : ks.length + 1 < scanBound := by show _ < 4096; omega
  have hv : ∀ {its : List Value}, Vals (ks.map kV) its → ∀ (i : Nat) (v : Value) k, its.toArray[i]? = some v → ks[i]? = some k → RelV (kV k) v := fun r i v k e1 e2 => by
    obtain ⟨u, hu, ru⟩ := r.get (i := i) (x := kV k) (by rw [List.getElem?_map, e2]; rfl)
    have e1 : _ = some v := (by simpa using e1)
    rw [hu] at e1
    cases e1
    exact ru
  rcases hq with hq | hq
  · obtain ⟨its, r, pl, hz⟩ := I1.list hq
    exact setk_list (I1.ok.hd hc) pl.isList (by have := r.length; simpa using this) bd (hv r) fun h' tk hS hk => fin its h' tk hS hk
  · obtain ⟨its, r, pl, hz⟩ := I1.tuple hq
    exact setk_tuple (I1.ok.hd hc) pl (by have := r.length; simpa using this) bd (hv r) fun h' tk hS hk => fin its h' tk hS hk
theorem d_lenSet {p p2 q pos : Pos} (hc : X.calm = true) (hm : X.mg "len" = none) (hm2 : X.mg "set" = none) (ha : PEd X H0 a ta) (hg : Gl X "len" := by rfl) (hg2 : Gl X "set" := by rfl)
    (na : starEach [a] X.env = (false, eval a X.env) :: starEach [] X.env := by rfl) : PEd X H0 (.Call (.Name "len" p) [.Call (.Name "set" p2) [a] [] q] [] pos) (dLenSet ta) :=
  PE.imp (pe_lenSetK hc hg hm hg2 hm2 ha na) fun σ H R ⟨G, δ, Q, s, h, q⟩ => ⟨G, δ, _, s, h, fun v H1 d G1 v1 r1 h1 => by
    obtain ⟨ks, sq, hz, h1⟩ := h1
    obtain ⟨a, xs, rfl, hs, rs⟩ := sq.get v1.sm r1
    rw [reps_key rs] at hs
    exact ⟨a, ks, rfl, hs, hz, q _ H1 _ G1 v1 (by rw [Rep]) h1⟩⟩
end
end Q
set_option maxHeartbeats 4000000
/-! QT: list(range(..)), repr, targets with a star -/
namespace Q
open PySem PySem.Spec PyProof.Rows L2
section
variable {prog : Program} {w : World} {A : Around} {I : Addr} {fp wr : List Addr} {G : Array GenState → Array GenState → Prop} {n : Nat} {P : Nat → Value → Prop} {St : Nat → Shared → Prop} {E : Value → Shared → Prop} {s : Shared}
theorem walks_shift (hn : 0 < n) (W : WalksS prog w A I fp wr G n P St) : WalksS prog w A I fp wr G (n - 1) (fun i => P (i + 1)) (fun i => St (i + 1)) where
  sub := W.sub
  grefl := W.grefl
  gtrans := W.gtrans
  frame := fun i => W.frame (i + 1)
  item := fun i s Q E hi st hQ => W.item (i + 1) s Q E (by omega) st hQ
  done := fun s Q E st hQ => W.done s Q E (by rw [show n - 1 + 1 = n by omega] at st; exact st) hQ
  self := fun i => W.self (i + 1)

theorem star_list {l : Addr} {its : Array Value} {u : Value} {Q : List Value → Shared → Prop} (hh : A.handled = none) (hS : s.heap.IsList l its) (hu : its[0]? = some u) (hz : its.size ≤ sizeLine)
    (h : ∀ (h' : Heap) (tk : Nat), (∀ b o, s.heap.get? b = some o → h'.get? b = some o) → Q [u, .ref h'.objs.size] { s with heap := h'.push { cls := .type "list", data := .seq (its.toList.drop 1).toArray }, toks := tk }) :
    wpAny (model prog w) A (unpackItems (.ref l) 2 (some 1)) Q E s := by
  have hn : 0 < its.size := (Array.getElem?_eq_some_iff.mp hu).1
  have hl : l < s.heap.objs.size := by obtain ⟨o, e, _⟩ := hS; exact Heap.lt_size e
  have hne : l ≠ s.heap.objs.size := Nat.ne_of_lt hl
  unfold unpackItems
  refine wpAny_bind ?_
  unfold notIterableAtAll
  refine wpAny_bind (wpAny_specialOf hS.typeIs F.slot_list_iter.lookup (wpAny_pure ?_))
  simp only [Bool.false_eq_true, if_false]
  refine wpAny_bind (wpAny_holding (wpAny_pyIter_list hS ?_))
  have W := (Walks.list (prog := prog) (w := w) hh s.heap.objs.size l hne its).toS
  refine wpAny_bind (wpAny_holding (show wpAny _ A (pyNext (.ref s.heap.objs.size) >>= _) _ _ _ from wpAny_bind (W.item 0 _ _ _ hn ⟨⟨_, Heap.get?_push_size _ rfl, rfl, rfl⟩, hS.push _⟩ fun v s' hP st' hm => wpAny_bind (wpAny_holding (wpAny_pure (wpAny_pure ?_))))))
  rw [if_neg (by simp)]
  have W1 := (Walks.list (prog := prog) (w := w) (A := A.in1) (by simpa using hh) s.heap.objs.size l hne its).toS
  refine wpAny_bind (wpAny_holding (wpAny_collect_iter (T := "list_iterator") (by simp) (walks_shift hn W1) (fun i s st => by obtain ⟨⟨o, e1, e2, _⟩, _⟩ := st; exact ⟨o, e1, e2⟩) st' (fun b hb => ?_) (by simp) (fun s2 acc hm2 ha => ?_) (by omega)))
  · obtain ⟨⟨o, e1, _⟩, ⟨o2, e2, _⟩⟩ := st'
    rcases List.mem_cons.mp hb with z | z
    · rw [z]; exact Heap.lt_size e1
    · rw [List.mem_singleton.mp z]; exact Heap.lt_size e2
  · rw [if_neg (by omega)]
    have ea : acc.toList = its.toList.drop 1 := by
      refine List.ext_getElem? fun i => ?_
      rw [List.getElem?_drop, Array.getElem?_toList, Array.getElem?_toList]
      by_cases hi : i < acc.size
      · have := ha.2 i acc[i] (by simp [hi])
        rw [Nat.add_comm 1 i, this]; simp [hi]
      · rw [Array.getElem?_eq_none (by omega), Array.getElem?_eq_none (by have := ha.1; omega)]
    have ez : acc.toList.length - (2 - 1 - 1) = acc.toList.length := by omega
    refine wpAny_bind (wpAny_newList ?_ (by simp only [ez, List.take_length]; have := ha.1; simp; omega))
    have hm3 := Moved.trans (fun _ _ _ h1 h2 => h2.trans h1) hm hm2
    have hP : its[0]? = some v := hP
    rw [hu] at hP
    cases hP
    obtain ⟨h', g', d', tk', os'⟩ := s2
    obtain rfl : g' = s.gens := hm3.gens
    obtain rfl : d' = s.drawn := hm3.drawn
    obtain rfl : os' = s.os := hm3.os
    refine wpAny_pure ?_
    simp only [ea, Nat.reduceSub, Nat.sub_zero, List.take_length, List.drop_length, List.append_nil, List.singleton_append]
    exact h h' tk' fun b o e => hm3.heap b o (by rw [List.mem_singleton]; exact Nat.ne_of_lt (Heap.lt_size e)) (Heap.get?_push_of_some _ e)

theorem star_tuple {l : Addr} {its : Array Value} {u : Value} {Q : List Value → Shared → Prop} (hh : A.handled = none) (hS : s.heap.IsTuple l its) (hu : its[0]? = some u) (hz : its.size ≤ sizeLine)
    (h : ∀ (h' : Heap) (tk : Nat), (∀ b o, s.heap.get? b = some o → h'.get? b = some o) → Q [u, .ref h'.objs.size] { s with heap := h'.push { cls := .type "list", data := .seq (its.toList.drop 1).toArray }, toks := tk }) :
    wpAny (model prog w) A (unpackItems (.ref l) 2 (some 1)) Q E s := by
  have hn : 0 < its.size := (Array.getElem?_eq_some_iff.mp hu).1
  have hl : l < s.heap.objs.size := by obtain ⟨o, e, _⟩ := hS; exact Heap.lt_size e
  have hne : l ≠ s.heap.objs.size := Nat.ne_of_lt hl
  unfold unpackItems
  refine wpAny_bind ?_
  unfold notIterableAtAll
  refine wpAny_bind (wpAny_specialOf hS.typeIs F.slot_tuple_iter.lookup (wpAny_pure ?_))
  simp only [Bool.false_eq_true, if_false]
  refine wpAny_bind (wpAny_holding (wpAny_pyIter_tuple hS ?_))
  have W := (Walks.tuple (prog := prog) (w := w) hh s.heap.objs.size l hne its).toS
  refine wpAny_bind (wpAny_holding (show wpAny _ A (pyNext (.ref s.heap.objs.size) >>= _) _ _ _ from wpAny_bind (W.item 0 _ _ _ hn ⟨⟨_, Heap.get?_push_size _ rfl, rfl, rfl⟩, hS.push _⟩ fun v s' hP st' hm => wpAny_bind (wpAny_holding (wpAny_pure (wpAny_pure ?_))))))
  rw [if_neg (by simp)]
  have W1 := (Walks.tuple (prog := prog) (w := w) (A := A.in1) (by simpa using hh) s.heap.objs.size l hne its).toS
  refine wpAny_bind (wpAny_holding (wpAny_collect_iter (T := "tuple_iterator") (by simp) (walks_shift hn W1) (fun i s st => by obtain ⟨⟨o, e1, e2, _⟩, _⟩ := st; exact ⟨o, e1, e2⟩) st' (fun b hb => ?_) (by simp) (fun s2 acc hm2 ha => ?_) (by omega)))
  · obtain ⟨⟨o, e1, _⟩, ⟨o2, e2, _⟩⟩ := st'
    rcases List.mem_cons.mp hb with z | z
    · rw [z]; exact Heap.lt_size e1
    · rw [List.mem_singleton.mp z]; exact Heap.lt_size e2
  · rw [if_neg (by omega)]
    have ea : acc.toList = its.toList.drop 1 := by
      refine List.ext_getElem? fun i => ?_
      rw [List.getElem?_drop, Array.getElem?_toList, Array.getElem?_toList]
      by_cases hi : i < acc.size
      · have := ha.2 i acc[i] (by simp [hi])
        rw [Nat.add_comm 1 i, this]; simp [hi]
      · rw [Array.getElem?_eq_none (by omega), Array.getElem?_eq_none (by have := ha.1; omega)]
    have ez : acc.toList.length - (2 - 1 - 1) = acc.toList.length := by omega
    refine wpAny_bind (wpAny_newList ?_ (by simp only [ez, List.take_length]; have := ha.1; simp; omega))
    have hm3 := Moved.trans (fun _ _ _ h1 h2 => h2.trans h1) hm hm2
    have hP : its[0]? = some v := hP
    rw [hu] at hP
    cases hP
    obtain ⟨h', g', d', tk', os'⟩ := s2
    obtain rfl : g' = s.gens := hm3.gens
    obtain rfl : d' = s.drawn := hm3.drawn
    obtain rfl : os' = s.os := hm3.os
    refine wpAny_pure ?_
    simp only [ea, Nat.reduceSub, Nat.sub_zero, List.take_length, List.drop_length, List.append_nil, List.singleton_append]
    exact h h' tk' fun b o e => hm3.heap b o (by rw [List.mem_singleton]; exact Nat.ne_of_lt (Heap.lt_size e)) (Heap.get?_push_of_some _ e)
end
section
variable {X : Cx} {H0 : Hp} {a b c tg : Expr} {es rest : List Expr} {pos p : Pos} {ta tb tc : ED} {x : Str} {t : AD} {Wd : WS} {k : Nat}
/-! ### first, *rest = x -/
def gStar (K : PySem.W.Frag) (t : TGs) : TG := fun v σ H Q => ∃ a x xs, v = .ref a ∧ (SqL K H a (x :: xs) ∨ SqT K H a (x :: xs)) ∧ ∀ l, H l = none → t [x, .ref l] σ (upd H l (.lst xs)) Q
theorem pg_star {e1 e2 : Expr} {sp : Pos} {n : Nat} {t : TGs} (hc : X.calm = true) (h : PGs X [e1, e2] t) (hn : (assignEach [e1, .Starred e2 sp] X.env).length = 2 := by rfl) (hst : (assignEach [e1, .Starred e2 sp] X.env).findIdx? (·.1) = some 1 := by rfl)
    (hs : (assignEach [e1, .Starred e2 sp] X.env).map (·.2) = (assignEach [e1, e2] X.env).map (·.2) := by rfl) : PG X (.Tuple [e1, .Starred e2 sp] n pos) (gStar X.K t) := by
  refine ⟨fun pins s σ H v u Q I r hw => ?_⟩
  obtain ⟨a, x, xs, rfl, hq, hw⟩ := hw
  cases r
  rw [assign_Tuple]
  refine wpAny_bind (wpAny_standAt ?_)
  unfold unpack
  rw [hn, hst, hs]
  have fin : ∀ (its : List Value), Vals (x :: xs) its → its.length ≤ sizeLine → ∃ u, its.toArray[0]? = some u ∧ its.toArray.size ≤ sizeLine ∧ ∀ (h' : Heap) (tk : Nat), (∀ b o, s.heap.get? b = some o → h'.get? b = some o) →
      wpAny (model X.prog X.w) X.A (assignInOrder ((assignEach [e1, e2] X.env).map (·.2)) [u, .ref h'.objs.size]) (fun _ s' => ∃ σ' H', Inv X pins σ' H' s' ∧ Q σ' H') X.xe { s with heap := h'.push { cls := .type "list", data := .seq (its.toArray.toList.drop 1).toArray }, toks := tk } := fun its rv hz => by
    cases rv with
    | cons ru rr =>
      rename_i u us
      refine ⟨u, by simp, by simpa using hz, fun h' tk hk => ?_⟩
      have I1 : Inv X pins σ H { s with heap := h', toks := tk } := I.kept hk
      have I2 : Inv X pins σ (upd H h'.objs.size (.lst xs)) { s with heap := h'.push { cls := .type "list", data := .seq us.toArray }, toks := tk } :=
        I1.laid (t' := tk) (fun b o e => Heap.get?_push_of_some _ e) (Nat.le_refl _) (show ObjOk X.prog X.w _ _ _ (.lst xs) from ⟨by rw [rr.length]; simp at hz; omega, us, _, rr, Heap.get?_push_size _ rfl⟩)
      exact h.run pins _ σ _ [x, .ref h'.objs.size] [u, .ref h'.objs.size] Q I2 (.cons ru (.cons rfl .nil)) (hw _ (I1.hok.fresh (Nat.le_refl _)))
  rcases hq with hq | hq
  · obtain ⟨its, rv, hl, hz⟩ := I.list hq
    obtain ⟨u, h1, h2, h3⟩ := fin its rv (by first | exact hz | exact (by rw [← rv.length]; exact hz))
    exact wpAny_bind (wpAny_holding (star_list (I.ok.hd hc) hl.isList h1 h2 h3))
  · obtain ⟨its, rv, hl, hz⟩ := I.tuple hq
    obtain ⟨u, h1, h2, h3⟩ := fin its rv (by first | exact hz | exact (by rw [← rv.length]; exact hz))
    exact wpAny_bind (wpAny_holding (star_tuple (I.ok.hd hc) hl h1 h2 h3))
def gdStar (t : GDs) : GD := fun d δ G Q => ∃ x xs, SeqG G d (x :: xs) ∧ ∀ l, G l = none → t [x, .ref l] δ (gupd G l (.lst xs)) Q
theorem g_star {e1 e2 : Expr} {sp : Pos} {n : Nat} {t : GDs} (hc : X.calm = true) (h : PGsd X H0 [e1, e2] t) (hn : (assignEach [e1, .Starred e2 sp] X.env).length = 2 := by rfl) (hst : (assignEach [e1, .Starred e2 sp] X.env).findIdx? (·.1) = some 1 := by rfl)
    (hs : (assignEach [e1, .Starred e2 sp] X.env).map (·.2) = (assignEach [e1, e2] X.env).map (·.2) := by rfl) : PGd X H0 (.Tuple [e1, .Starred e2 sp] n pos) (gdStar t) :=
  PG.imp (pg_star hc h hn hst hs) fun v σ H R ⟨d, G, δ, Q, s, r, h, q⟩ => by
    obtain ⟨x, xs, sq, h⟩ := h
    obtain ⟨a, us, rfl, hq, rs⟩ := sq.get s.sm r
    rw [Reps] at rs
    obtain ⟨v, r', rfl, r1, r2⟩ := rs
    refine ⟨a, v, r', rfl, hq, fun l hl => ?_⟩
    have kp : Keep H (upd H l (.lst r')) := .new hl
    exact ⟨_, gupd G l (.lst xs), δ, Q, ⟨s.kp.trans kp, s.sl.keep kp, s.sm.new (o := .lst xs) hl ⟨_, upd_same, Reps.keep kp _ _ r2⟩⟩, .cons (Rep.keep kp _ _ r1) (.one (by rw [Rep])), h l (s.sm.free hl), fun σ' H' δ' G' k' => q σ' H' δ' G' (kp.trans k')⟩
/-! ### list(range(n)), list(range(a, b)) -/
def dListRng (t : AD) : ED := fun δ G Q => t δ G fun vs G1 => match vs with
  | [.int j] => (0 ≤ j ∧ j ≤ 2 ^ 24) ∧ ∀ p, G1 p = none → Q (.ref p) (gupd G1 p (.lst (rangeD 0 j.toNat)))
  | _ => False
theorem rep_rgV {K : PySem.W.Frag} {H : Hp} (n : Nat) : Reps K H (rangeD 0 n) (rgV 0 n) := by
  unfold rangeD rgV
  rw [show ((n : Int) - 0).toNat = n by omega]
  have : ∀ l : List Nat, Reps K H (l.map fun k => D.int (0 + (k : Nat))) (l.map fun i => V.int (0 + (i : Nat))) := fun l => by
    induction l with
    | nil => exact .nil
    | cons i l ih => exact .cons (by rw [Rep]) ih
  exact this _
theorem prg_args {t : AD} {q : Pos} (hm : X.mg "range" = none) (ha : PAd X H0 [a] t) (hg : Gl X "range" := by rfl) (na : starEach [a] X.env = (false, eval a X.env) :: starEach [] X.env := by rfl) :
    PRg X (.Call (.Name "range" p) [a] [] q) (fun σ H Q => starA X.K X.mg H0 t σ H fun vs H1 => ∃ n, vs = [.int n] ∧ Q 0 n H1) := by
  intro pins s σ H Q I h
  refine Call_ (ld_blt I hg hm boot_range (PyProof.Rows.callWith_type1 (thn (ha.run q pins s σ H _ I h) fun us s1 ⟨vs, H1, I1, r1, n, e, q1⟩ => ?_) na rfl))
  subst e
  cases r1 with
  | cons r rr =>
    cases rr
    obtain ⟨t, rfl⟩ := r
    exact call_range_1 ⟨_, 0, n, _, _, _, H1, rfl, IsRange.new _ _ _ _ _ _ _, I1.kept fun b u e => Heap.get?_push_of_some _ e, q1⟩
theorem d_listRng {t : AD} {p2 q : Pos} (hc : X.calm = true) (hml : X.mg "list" = none) (hm : X.mg "range" = none) (ha : PAd X H0 [a] t) (hg : Gl X "range" := by rfl) (hgl : Gl X "list" := by rfl) (na : starEach [a] X.env = (false, eval a X.env) :: starEach [] X.env := by rfl)
    (nb : starEach [.Call (.Name "range" p2) [a] [] q] X.env = (false, eval (.Call (.Name "range" p2) [a] [] q) X.env) :: starEach [] X.env := by rfl) : PEd X H0 (.Call (.Name "list" p) [.Call (.Name "range" p2) [a] [] q] [] pos) (dListRng t) :=
  PE.imp (pe_listRg hc hgl hml (prg_args hm ha hg na) nb) fun σ H R ⟨G, δ, Q, s, h, q⟩ => ⟨G, δ, _, s, h, fun vs H1 ds G1 v1 r1 h1 => by
    revert h1
    split
    · rename_i j
      rintro ⟨h1, h2⟩
      obtain ⟨v, rfl, r2⟩ := reps1 r1
      rw [rep_int] at r2
      subst r2
      refine ⟨j, rfl, RgOk.of_le (by omega) (by omega) (by omega) (by omega), fun p hp => ?_⟩
      refine q _ _ _ _ ⟨v1.kp.trans (.new hp), v1.sm.new (o := .lst (rangeD 0 j.toNat)) hp ⟨_, upd_same, ?_⟩⟩ (by rw [Rep]) (h2 p (v1.sm.free hp))
      have := rep_rgV (K := X.K) (H := upd H1 p (.lst (rgV 0 j))) j.toNat
      rwa [show ((j.toNat : Nat) : Int) = j by omega] at this
    · exact False.elim⟩
/-! ### repr -/
def dRepr (ta : ED) : ED := fun δ G Q => ta δ G fun x G1 => ∃ e, Sees G1 x e ∧ ((∃ es, e = .tuple es) ∨ ∃ es, e = .list es) ∧ e.showable = true ∧ e.hasDict = false ∧ e.depth < 32 ∧ e.shown.length ≤ sizeLine ∧ Q (.str e.shown) G1
def tRepr (K : PySem.W.Frag) (ta : TE) : TE := fun σ H Q => ta σ H fun x H1 => ∃ a e, x = .ref a ∧ Dp K H1 x e ∧ e.showable = true ∧ e.hasDict = false ∧ e.depth < 32 ∧ e.shown.length ≤ sizeLine ∧ Q (.str e.shown) H1
theorem pe_repr {ta : TE} (hu : X.A.units + 64 < cLine) (hg : X.A.guards = some []) (hm : X.mg "repr" = none) (ha : PE X a ta) (hgl : Gl X "repr" := by rfl) (na : starEach [a] X.env = (false, eval a X.env) :: starEach [] X.env := by rfl) :
    PE X (.Call (.Name "repr" p) [a] [] pos) (tRepr X.K ta) := by
  refine ⟨fun pins s σ H Q I h => Call_ (ld_blt I hgl hm boot_repr ?_)⟩
  refine PyProof.Rows.callWith_builtin1 (PyProof.Rows.args_cons (thn (ha.run pins s σ H _ I h) fun v s1 ⟨x, H1, I1, r1, q1⟩ => PyProof.Rows.args_nil ?_) na) na rfl
  obtain ⟨l, e, rfl, hd, h1, h2, h3, h4, q1⟩ := q1
  cases r1
  obtain ⟨as, rd⟩ := Dp.reads I1 _ _ _ hd rfl
  exact PySem.repr_of_reads' rd h1 (fun z => absurd (h2.symm.trans z) (by simp)) hg (by omega) (fun _ _ e => e) (fun h' u tk hk => ⟨.str e.shown, H1, I1.kept hk, ⟨_, rfl⟩, q1⟩) h4
theorem d_repr (B : Bod X H0 Wd k) (hm : X.mg "repr" = none) (ha : PEd X H0 a ta) (hgl : Gl X "repr" := by rfl) (na : starEach [a] X.env = (false, eval a X.env) :: starEach [] X.env := by rfl) : PEd X H0 (.Call (.Name "repr" p) [a] [] pos) (dRepr ta) :=
  PE.imp (pe_repr B.hu B.hg hm ha hgl na) fun σ H R ⟨G, δ, Q, s, h, q⟩ => ⟨G, δ, _, s, h, fun v H1 d G1 v1 r1 h1 => by
    obtain ⟨e, sd, hs, h1, h2, h3, h4, q1⟩ := h1
    have dp := sd.dp v1.sm r1
    have : ∃ a, v = .ref a := by
      rcases hs with ⟨es, rfl⟩ | ⟨es, rfl⟩ <;> cases dp <;> exact ⟨_, rfl⟩
    obtain ⟨a, rfl⟩ := this
    exact ⟨a, e, rfl, dp, h1, h2, h3, h4, q _ H1 _ G1 v1 (by rw [Rep]) q1⟩⟩
end
end Q
set_option maxHeartbeats 4000000
/-! QM: forgetting, loops by what stands, comprehensions -/
namespace Q
open PySem PySem.Spec PyProof.Rows L2
/-- G' knows all that G knows -/
def Less (G G' : GH) : Prop := ∀ a o, G a = some o → G' a = some o
theorem Less.refl (G : GH) : Less G G := fun _ _ h => h
theorem Less.trans {G G1 G2 : GH} (h : Less G G1) (k : Less G1 G2) : Less G G2 := fun a o e => k a o (h a o e)
theorem Less.free {G G' : GH} {p : Addr} (l : Less G G') (h : G' p = none) : G p = none := by
  cases e : G p with
  | none => rfl
  | some o => rw [l p o e] at h; cases h
theorem Less.new {G G' : GH} {p : Addr} {o : GO} (l : Less G G') (h : G' p = none) : Less G (gupd G' p o) := fun a u e => by
  rw [gupd_ne]
  · exact l a u e
  · rintro rfl
    rw [l _ _ e] at h; cases h
theorem Less.put {G G' : GH} {p : Addr} {o : GO} (l : Less G G') (h : G p = none) : Less G (gupd G' p o) := fun a u e => by
  rw [gupd_ne]
  · exact l a u e
  · rintro rfl
    rw [e] at h; cases h
theorem Less.upd {G G' : GH} {p : Addr} {o : GO} (l : Less G G') : Less (gupd G p o) (gupd G' p o) := fun a u e => by
  by_cases h : a = p
  · subst h; simpa using e
  · rw [gupd_ne h] at e ⊢
    exact l a u e
theorem Less.at {G G' : GH} {p : Addr} {o : GO} (l : Less (gupd G p o) G') : G' p = some o := l p o gupd_same
theorem gupd_none {G : GH} {p q : Addr} {o : GO} (h : gupd G p o q = none) : q ≠ p ∧ G q = none := by
  by_cases e : q = p
  · subst e; simp at h
  · exact ⟨e, by rwa [gupd_ne e] at h⟩
theorem gupd_some {G : GH} {p q : Addr} {o u : GO} (h : G q = some u) (hp : G p = none) : gupd G p o q = some u := by
  rw [gupd_ne]
  · exact h
  · rintro rfl; rw [h] at hp; cases hp
def Fo (Q : QK) : QK := fun d G => ∃ G1, Less G1 G ∧ Q d G1
def FoX (E : XD) : XD := fun c fs G => ∃ G1, Less G1 G ∧ E c fs G1
theorem fo0 {Q : QK} {d : D} {G : GH} (h : Q d G) : Fo Q d G := ⟨G, .refl G, h⟩
theorem Fo.mk {Q : QK} {d : D} {G G' : GH} (l : Less G G') (h : Q d G) : Fo Q d G' := ⟨G, l, h⟩
theorem Fo.less {Q : QK} {d : D} {G G' : GH} (h : Fo Q d G) (l : Less G G') : Fo Q d G' := ⟨h.choose, h.choose_spec.1.trans l, h.choose_spec.2⟩
theorem fox0 {E : XD} {c : Str} {fs : List (Str × D)} {G : GH} (h : E c fs G) : FoX E c fs G := ⟨G, .refl G, h⟩
section
variable {P : Program} {w : World} {K : PySem.W.Frag} {mg : Str → Option Value} {base : Heap}
theorem FnG.imp {k : Nat} {f : Addr} {fd : FuncData} {ps : List Str} {sp sp' : Sp} (h : FnG P w K mg base k f fd ps sp) (i : ∀ vs H Q E, sp' vs H Q E → sp vs H Q E) : FnG P w K mg base k f fd ps sp' :=
  ⟨fun vs H Q E q => h.len vs H Q E (i _ _ _ _ q), fun A outer s H args us vs Q E hr hg e0 hb r q => h.run A outer s H args us vs Q E hr hg e0 hb r (i _ _ _ _ q)⟩
theorem Has.imp {k n : Nat} {x : Str} {dds : List D} {sp sp' : DSp} (h : Has P w K mg base k x n dds sp) (i : ∀ vs H Q E, liftSp K mg sp' vs H Q E → liftSp K mg sp vs H Q E) : Has P w K mg base k x n dds sp' := by
  obtain ⟨f, fd, ps, ds, dvs, hm, hk, hb, hd, hdd, hn, F⟩ := h.ex
  exact ⟨f, fd, ps, ds, dvs, hm, hk, hb, hd, hdd, hn, F.imp i⟩
/-- what is promised may be weakened -/
theorem Has.sub {k n : Nat} {x : Str} {dds : List D} {sp sp' : DSp} (h : Has P w K mg base k x n dds sp) (i : ∀ ds G Q E, sp' ds G Q E → sp ds G Q E) : Has P w K mg base k x n dds sp' :=
  h.imp fun vs H Q E ⟨ds, G, Qd, Ed, r, s, q, a, b⟩ => ⟨ds, G, Qd, Ed, r, s, i _ _ _ _ q, a, b⟩
def spF (sp : DSp) : DSp := fun ds G Q E => ∃ Q0 E0, sp ds G Q0 E0 ∧ Q = Fo Q0 ∧ E = FoX E0
theorem Has.unF {k n : Nat} {x : Str} {dds : List D} {sp : DSp} (h : Has P w K mg base k x n dds (spF sp)) : Has P w K mg base k x n dds sp :=
  h.imp fun vs H Q E ⟨ds, G, Qd, Ed, r, s, q, a, b⟩ => ⟨ds, G, Fo Qd, FoX Ed, r, s, ⟨Qd, Ed, q, rfl, rfl⟩, fun v H' d G' vo rp ⟨G1, l, z⟩ => a v H' d G1 ⟨vo.kp, vo.sm.less l⟩ rp z,
    fun c fs C d H' G' m xf vo ⟨G1, l, z⟩ => b c fs C d H' G1 m xf ⟨vo.kp, vo.sm.less l⟩ z⟩
abbrev BodyF (P : Program) (w : World) (K : PySem.W.Frag) (mg : Str → Option Value) (base : Heap) (k : Nat) (x : Str) (st : Stmt) (N : List Str) (sp : DSp) : Prop :=
  ∀ (f : Addr) (cdv : Value) (A : Around) (outer : List Env) (s : Shared) (H : Hp) (E : XK) (ds : List D) (G : GH) (Q : QK) (Ed : XD), Bod (bx P w K mg base N x st f cdv A outer s H E) H (fun c fs _ G' => FoX Ed c fs G') k →
    PassesOwn (model P w) (bx P w K mg base N x st f cdv A outer s H E).A (bx P w K mg base N x st f cdv A outer s H E).env (bx P w K mg base N x st f cdv A outer s H E).xe → sp ds G Q Ed →
    ∃ t, PSsd (bx P w K mg base N x st f cdv A outer s H E) H (defBody st) t ∧ t { nx := fun _ G' => Fo Q .non G', rt := Fo Q } (startD N ds) G
theorem Has.ofF {x : Str} {st : Stmt} {N ps : List Str} {k : Nat} {sp : DSp} (F : FunH K mg x st) (S : FnScope N ps (defScope st)) (hb : BindN x st ps) (len : ∀ ds G Q E, sp ds G Q E → ds.length = ps.length) (body : BodyF P w K mg base k x st N sp) : Has P w K mg base (k + 1) x ps.length [] sp :=
  Has.unF (Has.ofBody F S hb (fun ds G Q E ⟨Q0, E0, h, _⟩ => len _ _ _ _ h) fun f cdv A outer s H E ds G Q Ed B hp ⟨Q0, E0, h, hq, he⟩ => by
    subst hq; subst he
    exact body f cdv A outer s H E ds G Q0 E0 B hp h)
end
/-- a for by what stands ahead of each turn -/
theorem forD_inv {chk : GH → Prop} {g : GD} {tb : BD} {E : EndD} {items : List D} {δ : SD} {G : GH} (Inv : Nat → SD → GH → Prop) (h0 : Inv 0 δ G)
    (step : ∀ i d δ G (N : SD → GH → Prop), items[i]? = some d → Inv i δ G → (∀ δ' G', Inv (i + 1) δ' G' → N δ' G') → chk G ∧ g d δ G fun δ' G' => tb ⟨N, E.rt, E.nx, N⟩ δ' G')
    (fin : ∀ δ G, Inv items.length δ G → chk G ∧ E.nx δ G) : forD chk g tb E items δ G := by
  have : ∀ (r : List D) i δ G, items.drop i = r → i ≤ items.length → Inv i δ G → forD chk g tb E r δ G := by
    intro r
    induction r with
    | nil =>
      intro i δ G e hi h
      have : i = items.length := by
        have := congrArg List.length e
        simp at this
        omega
      subst this
      exact fin δ G h
    | cons d r ih =>
      intro i δ G e hi h
      have hd : items[i]? = some d := by
        have := congrArg (fun l : List D => l[0]?) e
        simpa using this
      have er : items.drop (i + 1) = r := by
        have := congrArg List.tail e
        simpa using this
      have hl : i + 1 ≤ items.length := by
        have := congrArg List.length e
        simp at this
        omega
      exact step i d δ G _ hd h fun δ' G' h' => ih (i + 1) δ' G' er hl h'
  exact this items 0 δ G (by simp) (Nat.zero_le _) h0
/-- a comprehension, each of whose turns leaves what is known -/
theorem lcD_of {chk : GH → Prop} {p : Pat} {tt : TD} {te : ED} {δ : SD} {l : Addr} {Q : QK} {items : List D} {G : GH} (f : D → Option D) (hl : G l = none) (hz : items.length ≤ sizeLine)
    (hk : ∀ acc G', Less (gupd G l (.lst acc)) G' → chk G')
    (step : ∀ d ∈ items, ∃ δ', bindP p d δ = some δ' ∧ ∀ acc G' (N : D → GH → Prop) (M : GH → Prop), Less (gupd G l (.lst acc)) G' → (∀ y G2, f d = some y → Less (gupd G l (.lst acc)) G2 → N y G2) → (∀ G2, f d = none → Less (gupd G l (.lst acc)) G2 → M G2) → tt δ' G' fun b G2 => if b = true then te δ' G2 N else M G2)
    (fin : ∀ G', Less (gupd G l (.lst (items.filterMap f))) G' → Q (.ref l) G') : lcD chk p tt te δ l Q items (gupd G l (.lst [])) := by
  have : ∀ (r : List D) acc G', (∀ d ∈ r, d ∈ items) → acc.length + r.length ≤ items.length → acc ++ r.filterMap f = items.filterMap f → Less (gupd G l (.lst acc)) G' → lcD chk p tt te δ l Q r G' := by
    intro r
    induction r with
    | nil =>
      intro acc G' _ _ e h
      refine ⟨hk _ _ h, fin _ ?_⟩
      rw [← e]; simpa using h
    | cons d r ih =>
      intro acc G' hm hlen e h
      obtain ⟨δ', hb, hs⟩ := step d (hm d (by simp))
      refine ⟨hk _ _ h, δ', hb, hs acc G' _ _ h (fun y G2 hf h2 => ?_) (fun G2 hf h2 => ?_)⟩
      · refine ⟨acc, h2.at, ?_, ?_⟩
        · simp at hlen; omega
        · refine ih (acc ++ [y]) _ (fun x hx => hm x (by simp [hx])) (by simp at hlen ⊢; omega) (by rw [← e]; simp [hf]) ?_
          have := h2.upd (p := l) (o := .lst (acc ++ [y]))
          simpa using this
      · exact ih acc _ (fun x hx => hm x (by simp [hx])) (by simp at hlen ⊢; omega) (by rw [← e]; simp [hf]) h2
  exact this items [] _ (fun _ h => h) (by simp) (by simp) (.refl _)
end Q
namespace Q
open PySem PySem.Spec PyProof.Rows L2
theorem SeqG.less {G G' : GH} {x : D} {ds : List D} (h : SeqG G x ds) (l : Less G G') : SeqG G' x ds := by
  cases x with
  | ref a => exact l _ _ h
  | tup es => exact h
  | rol es => exact h
  | _ => exact h.elim
theorem chk_less {G G' : GH} {x : D} {ds : List D} (h : SeqG G x ds) (l : Less G G') : chkOf x ds G' := by
  cases x with
  | ref a => exact l _ _ h
  | _ => trivial
theorem zero_le_size : (0 ≤ sizeLine) = True := by simp
theorem enumD_at {k0 : Int} {ds : List D} {i : Nat} {d : D} (h : (enumD k0 ds)[i]? = some d) : ∃ x, ds[i]? = some x ∧ d = .tup [.int (k0 + (i : Nat)), x] := enumD_get h
theorem enumD_length {k0 : Int} {ds : List D} : (enumD k0 ds).length = ds.length := by simp [enumD]
theorem map_at {α : Type} {f : α → D} {l : List α} {i : Nat} {d : D} (h : (l.map f)[i]? = some d) : ∃ x, l[i]? = some x ∧ d = f x := by
  rw [List.getElem?_map] at h
  cases e : l[i]? with
  | none => rw [e] at h; cases h
  | some x => rw [e] at h; exact ⟨x, rfl, (Option.some.inj h).symm⟩
/-- a[i] of what is walked -/
theorem ixD_seq {G : GH} {x d : D} {ds : List D} {i : Nat} {Q : QK} (h : SeqG G x ds) (hd : ds[i]? = some d) (q : Q d G) : ixD x (.int (i : Int)) G Q := by
  have e : atI ds (i : Int) = some d := by
    have hl : i < ds.length := (List.getElem?_eq_some_iff.mp hd).1
    unfold atI ixN
    rw [if_pos (by omega), if_pos (by omega)]
    simpa using hd
  cases x with
  | str _ => exact h.elim
  | _ => exact ⟨ds, d, h, e, q⟩
end Q
namespace Q
open PySem PySem.Spec PyProof.Rows L2
theorem tyD_lst {G : GH} {p : Addr} {ds : List D} (h : G p = some (.lst ds)) : tyD "list" (.ref p) G := .inl ⟨rfl, _, h⟩
end Q
namespace Q
open PySem PySem.Spec PyProof.Rows L2
theorem ixD_last {G : GH} {x d : D} {ds : List D} {Q : QK} (h : SeqG G x (ds ++ [d])) (q : Q d G) : ixD x (.int (-1)) G Q := by
  have e : atI (ds ++ [d]) (-1) = some d := by
    unfold atI ixN
    rw [if_neg (by omega), if_pos (by simp; omega)]
    have : ((-1 : Int) + ((ds ++ [d]).length : Nat)).toNat = ds.length := by simp; omega
    rw [Option.bind_some, this]
    simp
  cases x with
  | str _ => exact h.elim
  | _ => exact ⟨_, d, h, e, q⟩
end Q
namespace Q
open PySem PySem.Spec PyProof.Rows L2
theorem lenD_seq {G : GH} {x : D} {ds : List D} {Q : QK} (h : SeqG G x ds) (q : Q (.int (ds.length : Nat)) G) : lenD [x] G Q := by
  cases x with
  | str _ => exact h.elim
  | _ => exact ⟨_, h, q⟩
end Q
namespace Q
open PySem PySem.Spec PyProof.Rows L2
/-- .. of mapped items -/
theorem lcD_map {α : Type} {chk : GH → Prop} {p : Pat} {tt : TD} {te : ED} {δ : SD} {l : Addr} {Q : QK} {xs : List α} {e : α → D} {G : GH} (f : α → Option D) (hl : G l = none) (hz : xs.length ≤ sizeLine)
    (hk : ∀ acc G', Less (gupd G l (.lst acc)) G' → chk G')
    (step : ∀ x ∈ xs, ∃ δ', bindP p (e x) δ = some δ' ∧ ∀ acc G' (N : D → GH → Prop) (M : GH → Prop), Less (gupd G l (.lst acc)) G' → (∀ y G2, f x = some y → Less (gupd G l (.lst acc)) G2 → N y G2) → (∀ G2, f x = none → Less (gupd G l (.lst acc)) G2 → M G2) → tt δ' G' fun b G2 => if b = true then te δ' G2 N else M G2)
    (fin : ∀ G', Less (gupd G l (.lst (xs.filterMap f))) G' → Q (.ref l) G') : lcD chk p tt te δ l Q (xs.map e) (gupd G l (.lst [])) := by
  have : ∀ (r : List α) acc G', (∀ d ∈ r, d ∈ xs) → acc.length + r.length ≤ xs.length → acc ++ r.filterMap f = xs.filterMap f → Less (gupd G l (.lst acc)) G' → lcD chk p tt te δ l Q (r.map e) G' := by
    intro r
    induction r with
    | nil =>
      intro acc G' _ _ e h
      refine ⟨hk _ _ h, fin _ ?_⟩
      rw [← e]; simpa using h
    | cons d r ih =>
      intro acc G' hm hlen e h
      obtain ⟨δ', hb, hs⟩ := step d (hm d (by simp))
      refine ⟨hk _ _ h, δ', hb, hs acc G' _ _ h (fun y G2 hf h2 => ?_) (fun G2 hf h2 => ?_)⟩
      · refine ⟨acc, h2.at, ?_, ?_⟩
        · simp at hlen; omega
        · refine ih (acc ++ [y]) _ (fun x hx => hm x (by simp [hx])) (by simp at hlen ⊢; omega) (by rw [← e]; simp [hf]) ?_
          have := h2.upd (p := l) (o := .lst (acc ++ [y]))
          simpa using this
      · exact ih acc _ (fun x hx => hm x (by simp [hx])) (by simp at hlen ⊢; omega) (by rw [← e]; simp [hf]) h2
  exact this xs [] _ (fun _ h => h) (by simp) (by simp) (.refl _)
/-- .. without a condition -/
theorem lcD_map1 {α : Type} {chk : GH → Prop} {p : Pat} {te : ED} {δ : SD} {l : Addr} {Q : QK} {xs : List α} {e : α → D} {G : GH} (f : α → D) (hl : G l = none) (hz : xs.length ≤ sizeLine)
    (hk : ∀ acc G', Less (gupd G l (.lst acc)) G' → chk G')
    (step : ∀ x ∈ xs, ∃ δ', bindP p (e x) δ = some δ' ∧ ∀ acc G' (N : D → GH → Prop), Less (gupd G l (.lst acc)) G' → (∀ G2, Less (gupd G l (.lst acc)) G2 → N (f x) G2) → te δ' G' N)
    (fin : ∀ G', Less (gupd G l (.lst (xs.map f))) G' → Q (.ref l) G') : lcD chk p dYes te δ l Q (xs.map e) (gupd G l (.lst [])) := by
  refine lcD_map (fun x => some (f x)) hl hz hk (fun x hx => ?_) (fun G' h => fin G' (by simpa using h))
  obtain ⟨δ', hb, hs⟩ := step x hx
  exact ⟨δ', hb, fun acc G' N M h h1 h2 => by simpa [dYes] using hs acc G' N h fun G2 l => h1 _ G2 rfl l⟩
theorem signs_map (l : List Nat) : signs (SX.S l) = l.map fun c => D.str (SX.S [c]) := by
  simp [signs, SX.S]
/-- all(..) of a list of bools -/
theorem allD_at {G : GH} {p : Addr} {bs : List Bool} {Q : QK} (h : G p = some (.lst (bs.map D.bl))) (q : Q (.bl (bs.all id)) G) : allD [.ref p] G Q := ⟨bs, h, q⟩
theorem anyD_at {G : GH} {p : Addr} {bs : List Bool} {Q : QK} (h : G p = some (.lst (bs.map D.bl))) (q : Q (.bl (bs.any id)) G) : anyD [.ref p] G Q := ⟨bs, h, q⟩
end Q
namespace Q
open PySem PySem.Spec PyProof.Rows L2
section
variable {G : GH} {Q : QK} {P : Bool → Prop} {i j : Int} {x y : Str} {a b : Bool} {ds es : List D}
theorem eqD_ii : eqD (.int i) (.int j) G Q = Q (.bl (decide (i = j))) G := rfl
theorem eqD_ss : eqD (.str x) (.str y) G Q = Q (.bl (decide (x = y))) G := rfl
theorem eqD_bb : eqD (.bl a) (.bl b) G Q = Q (.bl (decide (a = b))) G := rfl
theorem neD_ii : neD (.int i) (.int j) G Q = Q (.bl (!decide (i = j))) G := rfl
theorem neD_ss : neD (.str x) (.str y) G Q = Q (.bl (!decide (x = y))) G := rfl
theorem neD_bb : neD (.bl a) (.bl b) G Q = Q (.bl (!decide (a = b))) G := rfl
theorem truD_bl : truD (.bl b) G P = P b := rfl
theorem truD_int : truD (.int i) G P = P (i != 0) := rfl
theorem truD_non : truD .non G P = P false := rfl
theorem truD_str : truD (.str x) G P = (x.length ≤ sizeLine ∧ P ((x.length : Int) != 0)) := rfl
theorem truD_tup : truD (.tup ds) G P = P (!ds.isEmpty) := rfl
theorem truD_rol : truD (.rol ds) G P = P (!ds.isEmpty) := rfl
theorem isB_bl : isB (.bl b) P = P b := rfl
theorem truD_lst {p : Addr} (h : G p = some (.lst ds)) (q : P (!ds.isEmpty)) : truD (.ref p) G P := by
  unfold truD
  simp only [h]
  exact q
theorem walkD_tup {R : List D → (GH → Prop) → GH → Prop} : walkD (.tup ds) G R = R ds (fun _ => True) G := rfl
theorem walkD_rol {R : List D → (GH → Prop) → GH → Prop} : walkD (.rol ds) G R = R ds (fun _ => True) G := rfl
theorem walkD_str {R : List D → (GH → Prop) → GH → Prop} : walkD (.str x) G R = R (signs x) (fun _ => True) G := rfl
theorem walkD_lst {p : Addr} {R : List D → (GH → Prop) → GH → Prop} (h : G p = some (.lst ds)) (q : R ds (fun G' => G' p = some (.lst ds)) G) : walkD (.ref p) G R := ⟨ds, h, q⟩
theorem lenD_str : lenD [.str x] G Q = (x.length ≤ sizeLine ∧ Q (.int (x.length : Nat)) G) := rfl
theorem lenD_tup (q : Q (.int (ds.length : Nat)) G) : lenD [.tup ds] G Q := ⟨ds, rfl, q⟩
theorem lenD_tupE : lenD [.tup ds] G Q = Q (.int (ds.length : Nat)) G := by
  refine propext ⟨fun ⟨es, e, q⟩ => ?_, lenD_tup⟩
  cases (show ds = es from e)
  exact q
theorem lenD_rolE : lenD [.rol ds] G Q = Q (.int (ds.length : Nat)) G := by
  refine propext ⟨fun ⟨es, e, q⟩ => ?_, fun q => ⟨ds, rfl, q⟩⟩
  cases (show ds = es from e)
  exact q
theorem rdI_ii {C : Int → Int → Prop} {f : Int → Int → D} : rdI C f (.int i) (.int j) G Q = (C i j ∧ Q (f i j) G) := rfl
theorem addD_ii : addD (.int i) (.int j) G Q = Q (.int (i + j)) G := rfl
theorem addD_ss : addD (.str x) (.str y) G Q = (x.length + y.length ≤ sizeLine ∧ Q (.str (x ++ y)) G) := rfl
theorem addD_tt : addD (.tup ds) (.tup es) G Q = (ds.length + es.length ≤ sizeLine ∧ Q (.tup (ds ++ es)) G) := rfl
theorem mulD_ii : mulD (.int i) (.int j) G Q = (MulOk i j ∧ Q (.int (i * j)) G) := rfl
theorem absD_i : absD [.int i] G Q = Q (.int (if i < 0 then -i else i)) G := rfl
theorem maxD_ii : maxD [.int i, .int j] G Q = Q (.int (if j > i then j else i)) G := rfl
theorem minD_ii : minD [.int i, .int j] G Q = Q (.int (if j < i then j else i)) G := rfl
theorem divmodD_ii : divmodD [.int i, .int j] G Q = (DivOk i j ∧ Q (.tup [.int (i / j), .int (i % j)]) G) := rfl
theorem strD_i : strD [.int i] G Q = (i.natAbs.log2 < 1920 ∧ Q (.str (toString i)) G) := rfl
theorem intD_s : intD [.str x] G Q = ∃ n, PySem.intText? x = some n ∧ x.length ≤ 640 ∧ Q (.int n) G := rfl
theorem tupleD_tup (q : Q (.tup ds) G) : tupleD [.tup ds] G Q := ⟨ds, rfl, q⟩
theorem tupleD_lst {p : Addr} (h : G p = some (.lst ds)) (q : Q (.tup ds) G) : tupleD [.ref p] G Q := ⟨ds, h, q⟩
theorem tupleD_seq {z : D} (h : SeqG G z ds) (q : Q (.tup ds) G) : tupleD [z] G Q := ⟨ds, h, q⟩
theorem isND_nn {neg : Bool} : isND neg .non .non G Q = Q (.bl (!neg)) G := rfl
theorem dNeg_i {δ : SD} {k : Int} : dNeg (dC (.int k)) δ G Q = Q (.int (-k)) G := rfl
end
end Q
namespace Q
open PySem PySem.Spec PyProof.Rows L2
/-- a comprehension by what stands ahead of each turn -/
theorem lcD_inv {chk : GH → Prop} {p : Pat} {tt : TD} {te : ED} {δ : SD} {l : Addr} {Q : QK} {items : List D} {G : GH} (Inv : Nat → List D → GH → Prop) (h0 : Inv 0 [] G) (hz : items.length ≤ sizeLine)
    (step : ∀ i d acc G', items[i]? = some d → acc.length ≤ i → Inv i acc G' → chk G' ∧ ∃ δ', bindP p d δ = some δ' ∧ ∀ (N : D → GH → Prop) (M : GH → Prop), (∀ y G2, G2 l = some (.lst acc) → Inv (i + 1) (acc ++ [y]) (gupd G2 l (.lst (acc ++ [y]))) → N y G2) → (∀ G2, Inv (i + 1) acc G2 → M G2) →
      tt δ' G' fun b G2 => if b = true then te δ' G2 N else M G2)
    (fin : ∀ acc G', Inv items.length acc G' → chk G' ∧ Q (.ref l) G') : lcD chk p tt te δ l Q items G := by
  have : ∀ (r : List D) i acc G', items.drop i = r → i ≤ items.length → acc.length ≤ i → Inv i acc G' → lcD chk p tt te δ l Q r G' := by
    intro r
    induction r with
    | nil =>
      intro i acc G' e hi _ h
      have : i = items.length := by
        have := congrArg List.length e
        simp at this
        omega
      subst this
      exact fin acc G' h
    | cons d r ih =>
      intro i acc G' e hi ha h
      have hd : items[i]? = some d := by
        have := congrArg (fun l : List D => l[0]?) e
        simpa using this
      have er : items.drop (i + 1) = r := by
        have := congrArg List.tail e
        simpa using this
      have hl : i + 1 ≤ items.length := by
        have := congrArg List.length e
        simp at this
        omega
      obtain ⟨hk, δ', hb, hs⟩ := step i d acc G' hd ha h
      exact ⟨hk, δ', hb, hs _ _ (fun y G2 hl2 hI => ⟨acc, hl2, by omega, ih (i + 1) _ _ er hl (by simp; omega) hI⟩) fun G2 hI => ih (i + 1) acc G2 er hl (by omega) hI⟩
  exact this items 0 [] G (by simp) (Nat.zero_le _) (by simp) h0
theorem rangeD_at {lo : Int} {n i : Nat} {d : D} (h : (rangeD lo n)[i]? = some d) : i < n ∧ d = .int (lo + (i : Nat)) := by
  unfold rangeD at h
  rw [List.getElem?_map] at h
  by_cases hi : i < n
  · rw [List.getElem?_range hi] at h
    exact ⟨hi, (Option.some.inj h).symm⟩
  · rw [List.getElem?_eq_none (by simpa using hi)] at h
    cases h
theorem rangeD_length {lo : Int} {n : Nat} : (rangeD lo n).length = n := by simp [rangeD]
/-! ### what the law draws from -/
/-- the pot at p -/
def potO (a b : Int) : GO := .lst [.int a, .int b]
def PotA (a b : Int) : Prop := 0 ≤ a ∧ 0 ≤ b ∧ b < 2 ^ 32
def Pot (G : GH) (p : Addr) : Prop := ∃ a b : Int, G p = some (potO a b) ∧ PotA a b
/-- G' is G but for the pot at p (and what is new) -/
structure Pl (p : Addr) (G G' : GH) : Prop where
  old : ∀ a o, a ≠ p → G a = some o → G' a = some o
  pot : Pot G' p
theorem Pl.refl {p : Addr} {G : GH} (h : Pot G p) : Pl p G G := ⟨fun _ _ _ h => h, h⟩
theorem Pl.trans {p : Addr} {G G1 G2 : GH} (h : Pl p G G1) (k : Pl p G1 G2) : Pl p G G2 := ⟨fun a o n e => k.old a o n (h.old a o n e), k.pot⟩
theorem Pl.less {p : Addr} {G G1 G2 : GH} (h : Pl p G G1) (k : Less G1 G2) : Pl p G G2 := ⟨fun a o n e => k a o (h.old a o n e), let ⟨a, b, e, r⟩ := h.pot; ⟨a, b, k _ _ e, r⟩⟩
theorem Pl.new {p q : Addr} {G G1 : GH} {o : GO} (h : Pl p G G1) (k : G1 q = none) : Pl p G (gupd G1 q o) := h.less (Less.new (.refl _) k)
theorem Pl.free {p q : Addr} {G G1 : GH} (h : Pl p G G1) (hp : ∃ o, G p = some o) (k : G1 q = none) : G q = none := by
  cases e : G q with
  | none => rfl
  | some o =>
    by_cases n : q = p
    · obtain ⟨a, b, e2, _⟩ := h.pot
      subst n
      rw [k] at e2; cases e2
    · rw [h.old q o n e] at k; cases k
/-- an object of one's own, above, changed -/
theorem Pl.put {p q : Addr} {G G1 : GH} {o : GO} (h : Pl p G G1) (k : G q = none) (n : q ≠ p) : Pl p G (gupd G1 q o) := by
  refine ⟨fun a u m e => ?_, ?_⟩
  · rw [gupd_ne]
    · exact h.old a u m e
    · rintro rfl
      rw [e] at k; cases k
  · obtain ⟨a, b, e, r⟩ := h.pot
    exact ⟨a, b, by rw [gupd_ne n.symm]; exact e, r⟩
theorem Pl.set {p : Addr} {G G1 : GH} {a b : Int} (h : Pl p G G1) (r : PotA a b) : Pl p G (gupd G1 p (potO a b)) := ⟨fun c u m e => by rw [gupd_ne m]; exact h.old c u m e, a, b, gupd_same, r⟩
/-- G' is G with another pot -/
theorem Pl.at {p : Addr} {G G' : GH} (h : Pl p G G') : ∃ a b, PotA a b ∧ Less (gupd G p (potO a b)) G' := by
  obtain ⟨a, b, e, r⟩ := h.pot
  refine ⟨a, b, r, fun c o q => ?_⟩
  by_cases n : c = p
  · subst n
    rw [gupd_same] at q; cases q
    exact e
  · rw [gupd_ne n] at q
    exact h.old c o n q
theorem potA_pl {p : Addr} {G : GH} {a b : Int} (r : PotA a b) : Pl p G (gupd G p (potO a b)) := ⟨fun c o n e => by rw [gupd_ne n]; exact e, a, b, gupd_same, r⟩
theorem Pot.some {G : GH} {p : Addr} (h : Pot G p) : ∃ o, G p = some o := let ⟨a, b, e, _⟩ := h; ⟨_, e⟩
/-- what a drawing def promises: Q at any heap with another pot -/
def PotQ (p : Addr) (G : GH) (Q : GH → Prop) : Prop := ∀ G', Pl p G G' → Q G'
end Q
set_option maxHeartbeats 4000000
/-! QN: from the head's facts to defs and constants -/
namespace Q
open PySem PySem.Spec PyProof.Rows L2
section
variable {P : Program} {w : World} {K : PySem.W.Frag} {mg : Str → Option Value} {base h : Heap}
theorem fun_of {x qual : Str} {st : Stmt} {f : Addr} {fd : FuncData} (F : FunD K x qual (defArgs st) (defBody st) (defScope st) [] [] f fd) : Fun K x qual st f fd := by
  obtain ⟨oc, od, dV, kV, doc, pm, an, cdv, ct, osl, e, lk, hcd, dv, kw⟩ := F.ex
  have : dV = .none := by
    rcases dv with ⟨_, z⟩ | ⟨z, _⟩
    · exact z
    · exact absurd rfl z
  subst this
  exact ⟨⟨oc, od, kV, doc, pm, an, cdv, ct, osl, e, lk, hcd⟩, F.kp⟩
theorem funH_of {x : Str} {st : Stmt} (X : K.In h) (G : h.Ns mainGlobals mg) (g : (He.Fa.glo x).ok K = true) (F : ∃ fd, FunD K x x (defArgs st) (defBody st) (defScope st) [] [] (He.ga K x) fd) : FunH K mg x st :=
  let ⟨fd, F⟩ := F; ⟨⟨_, fd, fun_of F, He.glo_ok X G g⟩⟩
theorem gc_str {x z : Str} (X : K.In h) (G : h.Ns mainGlobals mg) (g : (He.Fa.str x z).ok K = true) : GC K mg x (.str z) :=
  let ⟨t, e⟩ := He.str_ok X G g; ⟨_, e, .str z, ⟨t, rfl⟩, fun H => by rw [Rep]⟩
theorem gc_int {x : Str} {i : Int} (X : K.In h) (G : h.Ns mainGlobals mg) (g : (He.Fa.int x i).ok K = true) : GC K mg x (.int i) :=
  let ⟨t, e⟩ := He.int_ok X G g; ⟨_, e, .int i, ⟨t, rfl⟩, fun H => by rw [Rep]⟩
theorem gc_int2 {x : Str} {i j : Int} (X : K.In h) (G : h.Ns mainGlobals mg) (g : (He.Fa.glo x).ok K = true) (t : He.tupB K x [.int i, .int j] = true) : GC K mg x (.tup [.int i, .int j]) :=
  ⟨_, He.glo_ok X G g, .ref _, rfl, fun H => by
    rw [rep_tup]
    exact ⟨_, _, rfl, He.tupB_ok t H, .cons (by rw [rep_int]; rfl) (.one (by rw [rep_int]; rfl))⟩⟩
theorem exc_of {x : Str} (X : K.In h) (G : h.Ns mainGlobals mg) (g : (He.Fa.glo x).ok K = true) (e : (He.Fa.exc x).ok K = true) : ExcC K mg x :=
  let ⟨a, b, c, d⟩ := He.exc_ok e; ⟨⟨_, He.glo_ok X G g, a, b, c, d⟩⟩
/-- a def by its body, its function known -/
theorem FnG.ofF {x : Str} {st : Stmt} {f : Addr} {fd : FuncData} {N ps : List Str} {k : Nat} {sp : DSp} (F : Fun K x x st f fd) (S : FnScope N ps (defScope st)) (len : ∀ ds G Q E, sp ds G Q E → ds.length = ps.length) (body : BodyF P w K mg base k x st N sp) :
    FnG P w K mg base (k + 1) f fd ps (liftSp K mg sp) := by
  obtain ⟨oc, od, kV, doc, pm, an, cdv, ct, osl, rfl, lk, hcd⟩ := F.ex
  refine fnG_of lk hcd S (fun vs H Q E ⟨ds, G, Qd, Ed, r, sm, h, _⟩ => by rw [r.length]; exact len _ _ _ _ h) fun A outer s H vs Q E hr hg ⟨ds', G, Qd, Ed, r, sm, h, hq, hx⟩ => ?_
  have tk : Takes (cxOf (L2.CX P w) P w K mg base N x (defScope st) f cdv A outer s H E) (fun cls d _ H => E cls d H) := takes_of rfl rfl rfl rfl
  have B : Bod (cxOf (L2.CX P w) P w K mg base N x (defScope st) f cdv A outer s H E) H (fun c fs _ G' => FoX Ed c fs G') k :=
    ⟨hr, hg, rfl, ⟨_, tk, fun c fs C d σ H' δ' G' m xf S ⟨G1, l, z⟩ => hx c fs C d H' G1 m xf ⟨S.kp, S.sm.less l⟩ z⟩⟩
  obtain ⟨t, ht, z⟩ := body f cdv A outer s H E ds' G Qd Ed B (passes_of rfl) h
  exact ⟨_, ht, G, startD N ds', _, ⟨.refl _, start_reps r, sm⟩, z, ⟨fun σ' H' δ' G' kp s' ⟨G1, l, q⟩ => hq .non H' .non G1 ⟨kp, s'.sm.less l⟩ (by rw [Rep]) q, fun v H' d G' v1 r1 ⟨G1, l, q⟩ => hq v H' d G1 ⟨v1.kp, v1.sm.less l⟩ r1 q, fun _ _ _ _ _ _ z => z.elim, fun _ _ _ _ _ _ z => z.elim⟩⟩
end
end Q
set_option maxHeartbeats 4000000
/-! M1: parts as rational numbers -/
namespace Q
open PySem PySem.Spec PyProof.Rows L2
def encQ (q : Rat) : D := .tup [.int q.num, .int q.den]
/-- small enough to be multiplied, divided -/
def SmK (k : Nat) (q : Rat) : Prop := q.num.natAbs < 2 ^ k ∧ q.den < 2 ^ k
abbrev Sm (q : Rat) : Prop := SmK 4000 q
theorem SmK.mono {j k : Nat} {q : Rat} (h : SmK j q) (hk : j ≤ k) : SmK k q :=
  ⟨Nat.lt_of_lt_of_le h.1 (Nat.pow_le_pow_right (by decide) hk), Nat.lt_of_lt_of_le h.2 (Nat.pow_le_pow_right (by decide) hk)⟩
theorem log2_lt {n k : Nat} (hk : 0 < k) (h : n < 2 ^ k) : n.log2 < k := PySem.Flt.log2_lt_of hk h
theorem mulOk_of {i j : Int} {a b : Nat} (ha : i.natAbs < 2 ^ a) (hb : j.natAbs < 2 ^ b) (h0 : 0 < a := by omega) (h1 : 0 < b := by omega) (h : a + b ≤ 1000000 := by omega) : MulOk i j := .inr (wide_mul ha hb h0 h1 h)
theorem divOk_of {i j : Int} {b : Nat} (h : 0 < j) (hb : j.natAbs < 2 ^ b) (h0 : 0 < b := by omega) (h9 : b ≤ 9000 := by omega) : DivOk i j := wide_div h hb h0 h9
theorem natAbs_mul_lt {i j : Int} {a b : Nat} (ha : i.natAbs < 2 ^ a) (hb : j.natAbs < 2 ^ b) : (i * j).natAbs < 2 ^ (a + b) := wide_lt ha hb
theorem natAbs_add_lt {i j : Int} {a : Nat} (ha : i.natAbs < 2 ^ a) (hb : j.natAbs < 2 ^ a) : (i + j).natAbs < 2 ^ (a + 1) := by
  rw [Nat.pow_succ]; omega
/-- what lowest makes of two whole numbers, the second above 0 -/
theorem lowest_num {i j : Int} (h : 0 < j) : i / (Int.gcd i j : Int) = (Rat.divInt i j).num := by
  rw [Rat.num_divInt, Int.sign_eq_one_of_pos h, Int.one_mul, Int.gcd_comm]
theorem lowest_den {i j : Int} (h : 0 < j) : j / (Int.gcd i j : Int) = ((Rat.divInt i j).den : Int) := by
  rw [Rat.den_divInt, if_neg (by omega), Int.gcd_comm]
  rw [Int.natCast_ediv]
  congr 1
  omega
theorem plus_eq (p q : Rat) : Rat.divInt (p.num * q.den + q.num * p.den) (p.den * q.den) = p + q := by
  rw [Rat.add_def', ← Rat.divInt_ofNat, Int.natCast_mul]
theorem minus_eq (p q : Rat) : Rat.divInt (p.num * q.den - q.num * p.den) (p.den * q.den) = p - q := by
  rw [Rat.sub_def', ← Rat.divInt_ofNat, Int.natCast_mul]
theorem less_eq (p q : Rat) : decide (p.num * q.den < q.num * p.den) = decide (p < q) := by
  rw [decide_eq_decide, Rat.lt_iff]
theorem times_eq (p : Rat) (m : Int) : Rat.divInt (p.num * m) p.den = p * (m : Rat) := by
  rw [Rat.mul_def', Rat.divInt_ofNat]
  simp
theorem shared_eq (p : Rat) {m : Int} (h : 0 < m) : Rat.divInt p.num (p.den * m) = p / (m : Rat) := by
  rw [Rat.div_def, Rat.divInt_eq_div]
  have e : p = (p.num : Rat) / ((p.den : Int) : Rat) := by rw [← Rat.divInt_eq_div, Rat.num_divInt_den]
  conv => rhs; rw [e]
  rw [Rat.div_def, Rat.div_def, Rat.intCast_mul, Rat.inv_mul_rev]
  grind
theorem SmK.divInt {i j : Int} {k : Nat} (hi : i.natAbs < 2 ^ k) (hj : j.natAbs < 2 ^ k) (h : 0 < j) : SmK k (Rat.divInt i j) := by
  constructor
  · rw [← lowest_num h]
    refine Nat.lt_of_le_of_lt ?_ hi
    rw [Int.natAbs_ediv_of_dvd (Int.gcd_dvd_left ..)]
    exact Nat.div_le_self _ _
  · have e := lowest_den (i := i) h
    have e2 : (Rat.divInt i j).den = j.natAbs / Int.gcd i j := by
      have : ((Rat.divInt i j).den : Int) = ((j.natAbs / Int.gcd i j : Nat) : Int) := by
        rw [← e, Int.natCast_ediv]
        congr 1
        omega
      exact Int.ofNat.inj this
    rw [e2]
    exact Nat.lt_of_le_of_lt (Nat.div_le_self _ _) hj
theorem SmK.add {j k : Nat} {p q : Rat} (hp : SmK j p) (hq : SmK k q) : SmK (j + k + 1) (p + q) := by
  rw [← plus_eq]
  have d : (0 : Int) < p.den * q.den := Int.mul_pos (by have := p.den_pos; omega) (by have := q.den_pos; omega)
  refine SmK.divInt (natAbs_add_lt ?_ ?_) ?_ d
  · exact natAbs_mul_lt hp.1 (by simpa using hq.2)
  · rw [Nat.add_comm]; exact natAbs_mul_lt hq.1 (by simpa using hp.2)
  · exact Nat.lt_of_lt_of_le (natAbs_mul_lt (by simpa using hp.2) (by simpa using hq.2)) (Nat.pow_le_pow_right (by decide) (by omega))
theorem SmK.neg {j : Nat} {p : Rat} (hp : SmK j p) : SmK j (-p) := ⟨by simpa using hp.1, hp.2⟩
theorem SmK.sub {j k : Nat} {p q : Rat} (hp : SmK j p) (hq : SmK k q) : SmK (j + k + 1) (p - q) := by
  rw [Rat.sub_eq_add_neg]; exact hp.add hq.neg
theorem SmK.zero : SmK 1 (0 : Rat) := ⟨by decide, by decide⟩
theorem SmK.int {k : Nat} {i : Int} (h : i.natAbs < 2 ^ k) (hk : 0 < k) : SmK k (i : Rat) := ⟨h, by
  show 1 < 2 ^ k
  exact Nat.one_lt_two_pow (by omega)⟩
/-- a row whose sums stay small -/
def RowOk (row : List Rat) : Prop := ∃ k, (∀ x ∈ row, SmK k x) ∧ row.length * (k + 1) ≤ 3990
theorem sum_smK {k : Nat} : ∀ {l : List Rat}, (∀ x ∈ l, SmK k x) → SmK (l.length * (k + 1) + 1) l.sum
  | [], _ => by simpa using SmK.zero
  | x :: l, h => by
    rw [List.sum_cons, List.length_cons]
    have := (h x (by simp)).add (sum_smK (l := l) fun y hy => h y (by simp [hy]))
    refine this.mono ?_
    rw [Nat.add_mul]
    omega
theorem SmK.den_pos {k : Nat} {q : Rat} (h : SmK k q) : (0 : Int) < q.den := by have := q.den_pos; omega
/-- == of two parts -/
theorem encQ_inj {p q : Rat} : encQ p = encQ q ↔ p = q := by
  constructor
  · intro h
    unfold encQ at h
    injection h with h
    injection h with h1 h2
    injection h1 with h1
    injection h2 with h2 _
    injection h2 with h2
    exact Rat.ext h1 (Int.ofNat.inj h2)
  · rintro rfl; rfl
theorem sees_int2 {G : GH} (i j : Int) : Sees G (.tup [.int i, .int j]) (.tuple [.int i, .int j]) := .tup (.cons (.int i) (.cons (.int j) .nil))
theorem shaped_int2 (i j : Int) : SeqAt.shaped (.tuple [.int i, .int j]) = true := rfl
theorem eqv_int2 (i j k l : Int) : PyData.eqv (.tuple [.int i, .int j]) (.tuple [.int k, .int l]) = (decide (i = k) && decide (j = l)) := by
  simp [PyData.eqv, PyData.eqvAll, Bool.beq_eq_decide_eq]
theorem eqD_int2 {i j k l : Int} {G : GH} {Q : QK} (h : Q (.bl (decide (i = k) && decide (j = l))) G) : eqD (.tup [.int i, .int j]) (.tup [.int k, .int l]) G Q :=
  ⟨_, _, sees_int2 i j, sees_int2 k l, rfl, rfl, by rw [eqv_int2]; exact h⟩
theorem neD_int2 {i j k l : Int} {G : GH} {Q : QK} (h : Q (.bl (!(decide (i = k) && decide (j = l)))) G) : neD (.tup [.int i, .int j]) (.tup [.int k, .int l]) G Q :=
  ⟨_, _, sees_int2 i j, sees_int2 k l, rfl, rfl, by rw [eqv_int2]; exact h⟩
theorem eqD_Q {p q : Rat} {G : GH} {Q : QK} (h : Q (.bl (decide (p = q))) G) : eqD (encQ p) (encQ q) G Q := by
  refine eqD_int2 ?_
  have e : (decide (p.num = q.num) && decide ((p.den : Int) = (q.den : Int))) = decide (p = q) := by
    rw [← Bool.decide_and, decide_eq_decide]
    constructor
    · rintro ⟨h1, h2⟩; exact Rat.ext h1 (Int.ofNat.inj h2)
    · rintro rfl; exact ⟨rfl, rfl⟩
  rw [e]; exact h
theorem neD_Q {p q : Rat} {G : GH} {Q : QK} (h : Q (.bl (!decide (p = q))) G) : neD (encQ p) (encQ q) G Q := by
  refine neD_int2 ?_
  have e : (decide (p.num = q.num) && decide ((p.den : Int) = (q.den : Int))) = decide (p = q) := by
    rw [← Bool.decide_and, decide_eq_decide]
    constructor
    · rintro ⟨h1, h2⟩; exact Rat.ext h1 (Int.ofNat.inj h2)
    · rintro rfl; exact ⟨rfl, rfl⟩
  rw [e]; exact h
/-- a[i] of a tuple of two -/
theorem ixD_0 {a b : D} {G : GH} {Q : QK} (h : Q a G) : ixD (.tup [a, b]) (.int 0) G Q := ⟨[a, b], a, rfl, rfl, h⟩
theorem ixD_1 {a b : D} {G : GH} {Q : QK} (h : Q b G) : ixD (.tup [a, b]) (.int 1) G Q := ⟨[a, b], b, rfl, rfl, h⟩
theorem ixD_tup0 {a b : D} {G : GH} {Q : QK} : ixD (.tup [a, b]) (.int 0) G Q = Q a G := by
  apply propext
  constructor
  · rintro ⟨ds, d, e, h, q⟩
    cases (show [a, b] = ds from e)
    cases (show some a = some d from h)
    exact q
  · exact ixD_0
theorem ixD_tup1 {a b : D} {G : GH} {Q : QK} : ixD (.tup [a, b]) (.int 1) G Q = Q b G := by
  apply propext
  constructor
  · rintro ⟨ds, d, e, h, q⟩
    cases (show [a, b] = ds from e)
    cases (show some b = some d from h)
    exact q
  · exact ixD_1
theorem two_le_size : (2 ≤ sizeLine) = True := by simp [sizeLine_eq]
end Q
namespace Q
open PySem PySem.Spec PyProof.Rows L2
def isW : D → Bool
  | .int _ => true
  | _ => false
end Q
namespace Q
open PySem PySem.Spec PyProof.Rows L2
theorem ixD_enc0 {q : Rat} {G : GH} {Q : QK} : ixD (encQ q) (.int 0) G Q = Q (.int q.num) G := ixD_tup0
theorem ixD_enc1 {q : Rat} {G : GH} {Q : QK} : ixD (encQ q) (.int 1) G Q = Q (.int q.den) G := ixD_tup1
end Q
set_option maxHeartbeats 4000000
/-! M2: rows of parts: the greatest first, sums ahead, the most -/
namespace Q
open PySem PySem.Spec PyProof.Rows L2
def rv (row : List Rat) (k : Nat) : Rat := row.getD k 0
def gins (row : List Rat) (l : List Nat) (i : Nat) : List Nat := l.take (l.filter fun k => !decide (rv row k < rv row i)).length ++ [i] ++ l.drop (l.filter fun k => !decide (rv row k < rv row i)).length
def gfK (row : List Rat) : Nat → List Nat
  | 0 => []
  | n + 1 => gins row (gfK row n) n
def gf (row : List Rat) : List Nat := gfK row row.length
theorem gins_perm (row : List Rat) (l : List Nat) (i : Nat) : (gins row l i).Perm (i :: l) := by
  unfold gins
  generalize (l.filter _).length = a
  have h : (l.take a ++ [i] ++ l.drop a).Perm (i :: (l.take a ++ l.drop a)) := by
    rw [List.append_assoc]
    exact List.perm_middle
  rwa [List.take_append_drop] at h
theorem gfK_perm (row : List Rat) : ∀ n, (gfK row n).Perm (List.range n)
  | 0 => .refl _
  | n + 1 => by
    rw [gfK, List.range_succ]
    exact (gins_perm row _ n).trans (((gfK_perm row n).cons n).trans (List.perm_append_comm (l₁ := [n])))
theorem gfK_length (row : List Rat) (n : Nat) : (gfK row n).length = n := by
  rw [(gfK_perm row n).length_eq, List.length_range]
theorem gf_length (row : List Rat) : (gf row).length = row.length := gfK_length row _
theorem gf_lt {row : List Rat} {k : Nat} (h : k ∈ gf row) : k < row.length := by
  have := (gfK_perm row row.length).mem_iff.mp h
  simpa using this
/-- falling -/
abbrev Falls (row : List Rat) (l : List Nat) : Prop := l.Pairwise fun a b => rv row b ≤ rv row a
theorem gins_cons {row : List Rat} {k : Nat} {l : List Nat} {i : Nat} (h : Falls row (k :: l)) : gins row (k :: l) i = if rv row k < rv row i then i :: k :: l else k :: gins row l i := by
  unfold gins
  by_cases hk : rv row k < rv row i
  · have e : (l.filter fun k => !decide (rv row k < rv row i)) = [] := by
      rw [List.filter_eq_nil_iff]
      intro x hx
      have := (List.pairwise_cons.mp h).1 x hx
      have : rv row x < rv row i := by grind
      simp [this]
    simp [hk, e]
  · simp [hk]
theorem gins_falls {row : List Rat} {i : Nat} : ∀ {l : List Nat}, Falls row l → Falls row (gins row l i)
  | [], _ => by simp [gins]
  | k :: l, h => by
    rw [gins_cons h]
    have h2 := List.pairwise_cons.mp h
    split
    · rename_i hk
      refine List.pairwise_cons.mpr ⟨fun x hx => ?_, h⟩
      rcases List.mem_cons.mp hx with rfl | hx
      · grind
      · have := h2.1 x hx; grind
    · rename_i hk
      refine List.pairwise_cons.mpr ⟨fun x hx => ?_, gins_falls h2.2⟩
      rcases List.mem_cons.mp ((gins_perm row l i).mem_iff.mp hx) with rfl | hx
      · grind
      · exact h2.1 x hx
theorem gfK_falls (row : List Rat) : ∀ n, Falls row (gfK row n)
  | 0 => .nil
  | n + 1 => gins_falls (gfK_falls row n)
/-- the row, falling -/
def desc (row : List Rat) : List Rat := (gf row).map (rv row)
theorem rv_range (row : List Rat) : (List.range row.length).map (rv row) = row := by
  refine List.ext_getElem? fun i => ?_
  rw [List.getElem?_map]
  by_cases h : i < row.length
  · rw [List.getElem?_range h]
    simp [rv, h]
  · rw [List.getElem?_eq_none (by simpa using h), List.getElem?_eq_none (by simpa using h)]; rfl
theorem desc_perm (row : List Rat) : (desc row).Perm row := by
  have := (gfK_perm row row.length).map (rv row)
  rwa [rv_range] at this
abbrev Dn (l : List Rat) : Prop := l.Pairwise fun a b => b ≤ a
theorem desc_falls (row : List Rat) : Dn (desc row) := by
  unfold desc
  exact List.pairwise_map.mpr (gfK_falls row row.length)
theorem desc_length (row : List Rat) : (desc row).length = row.length := (desc_perm row).length_eq
theorem dn_unique : ∀ {l m : List Rat}, l.Perm m → Dn l → Dn m → l = m
  | [], m, h, _, _ => (List.nil_perm.mp h).symm
  | a :: l, [], h, _, _ => absurd h.length_eq (by simp)
  | a :: l, b :: m, h, h1, h2 => by
    have g1 := List.pairwise_cons.mp h1
    have g2 := List.pairwise_cons.mp h2
    have e : a = b := by
      have ha : a ∈ b :: m := h.mem_iff.mp (by simp)
      have hb : b ∈ a :: l := h.mem_iff.mpr (by simp)
      have l1 : a ≤ b := by
        rcases List.mem_cons.mp ha with rfl | ha
        · grind
        · exact g2.1 a ha
      have l2 : b ≤ a := by
        rcases List.mem_cons.mp hb with rfl | hb
        · grind
        · exact g1.1 b hb
      grind
    subst e
    rw [dn_unique (List.perm_cons a |>.mp h) g1.2 g2.2]
theorem desc_unique {l row : List Rat} (h : l.Perm row) (d : Dn l) : l = desc row := dn_unique (h.trans (desc_perm row).symm) d (desc_falls row)
theorem sum_perm {l m : List Rat} (h : l.Perm m) : l.sum = m.sum := by
  induction h with
  | nil => rfl
  | cons x _ ih => simp [ih]
  | swap x y l => simp only [List.sum_cons]; grind
  | trans _ _ a b => exact a.trans b
theorem sum_append (l m : List Rat) : (l ++ m).sum = l.sum + m.sum := by
  induction l with
  | nil => simp; grind
  | cons x l ih => simp only [List.cons_append, List.sum_cons, ih]; grind
/-- sums ahead -/
def psums (c : Rat) : List Rat → List Rat
  | [] => [c]
  | x :: r => c :: psums (c + x) r
theorem psums_length (c : Rat) : ∀ l, (psums c l).length = l.length + 1
  | [] => rfl
  | x :: r => by simp [psums, psums_length]
theorem psums_get {l : List Rat} : ∀ {c : Rat} {k : Nat}, k ≤ l.length → (psums c l)[k]? = some (c + (l.take k).sum) := by
  induction l with
  | nil => intro c k h; simp at h; subst h; simp [psums]; grind
  | cons x r ih =>
    intro c k h
    cases k with
    | zero => simp [psums]; grind
    | succ k =>
      rw [psums, List.getElem?_cons_succ, ih (by simpa using h), List.take_succ_cons, List.sum_cons]
      congr 1; grind
theorem psums_snoc (c : Rat) (l : List Rat) (x : Rat) : psums c (l ++ [x]) = psums c l ++ [c + l.sum + x] := by
  induction l generalizing c with
  | nil => simp [psums]; grind
  | cons y l ih => simp only [List.cons_append, psums, ih, List.sum_cons]; congr 3; grind
/-- the k greatest together -/
def top (row : List Rat) (k : Nat) : Rat := ((desc row).take k).sum
theorem top_all (row : List Rat) : top row row.length = row.sum := by
  unfold top
  rw [List.take_of_length_le (by rw [desc_length]; exact Nat.le_refl _), sum_perm (desc_perm row)]
/-- the most that k of n seats may owe together -/
def bq (W : Int) (n k : Nat) : Rat := Rat.divInt (W * k * ((n : Int) - k)) 2
theorem bq_eq (W : Int) (n k : Nat) : bq W n k = (W : Rat) * k * (n - k) / 2 := by
  unfold bq
  rw [Rat.divInt_eq_div]
  congr 1
  simp only [Rat.intCast_mul, Rat.intCast_sub, Rat.intCast_natCast]
def fallN (W : Int) (row : List Rat) : Option Nat := (List.range (row.length + 1)).find? fun k => decide (bq W row.length k < top row k)
/-- the moment's paper holds -/
def Fits (W : Int) (row : List Rat) : Prop := row.sum = 0 ∧ ∀ k, k ≤ row.length → top row k ≤ bq W row.length k
theorem fallN_none {W : Int} {row : List Rat} : fallN W row = none ↔ ∀ k, k ≤ row.length → top row k ≤ bq W row.length k := by
  unfold fallN
  rw [List.find?_eq_none]
  constructor
  · intro h k hk
    have := h k (by simp; omega)
    simp at this
    grind
  · intro h k hk
    have := h k (by simp at hk; omega)
    simp
    grind
instance (W : Int) (row : List Rat) : Decidable (Fits W row) := decidable_of_iff (row.sum = 0 ∧ fallN W row = none) (by unfold Fits; rw [fallN_none])
theorem fits_decide (W : Int) (row : List Rat) : decide (Fits W row) = (decide (row.sum = 0) && decide (fallN W row = none)) := by
  rw [Bool.eq_iff_iff, Bool.and_eq_true, decide_eq_true_iff, decide_eq_true_iff, decide_eq_true_iff, fallN_none]
  exact Iff.rfl
/-! ### bounds of numbers -/
/-- q is a whole number by N, at most c in size -/
def Fz (N c : Nat) (q : Rat) : Prop := ∃ m : Int, q * (N : Rat) = m ∧ m.natAbs ≤ c
theorem Fz.mono {N c d : Nat} {q : Rat} (h : Fz N c q) (hd : c ≤ d) : Fz N d q := let ⟨m, e, l⟩ := h; ⟨m, e, Nat.le_trans l hd⟩
theorem Fz.zero (N : Nat) : Fz N 0 0 := ⟨0, by simp, by simp⟩
theorem Fz.add {N c d : Nat} {p q : Rat} (hp : Fz N c p) (hq : Fz N d q) : Fz N (c + d) (p + q) := by
  obtain ⟨m, e, l⟩ := hp
  obtain ⟨n, f, k⟩ := hq
  exact ⟨m + n, by rw [Rat.intCast_add, ← e, ← f]; grind, by omega⟩
theorem Fz.neg {N c : Nat} {p : Rat} (hp : Fz N c p) : Fz N c (-p) := by
  obtain ⟨m, e, l⟩ := hp
  exact ⟨-m, by rw [Rat.intCast_neg, ← e]; grind, by omega⟩
theorem Fz.sub {N c d : Nat} {p q : Rat} (hp : Fz N c p) (hq : Fz N d q) : Fz N (c + d) (p - q) := by
  rw [Rat.sub_eq_add_neg]; exact hp.add hq.neg
theorem Fz.sum {N c : Nat} : ∀ {l : List Rat}, (∀ x ∈ l, Fz N c x) → Fz N (l.length * c) l.sum
  | [], _ => by simpa using Fz.zero N
  | x :: l, h => by
    rw [List.sum_cons, List.length_cons, Nat.add_mul, Nat.add_comm, Nat.one_mul]
    exact (h x (by simp)).add (Fz.sum fun y hy => h y (by simp [hy]))
theorem Fz.sm {N c k : Nat} {q : Rat} (h : Fz N c q) (h0 : 0 < N) (hN : N < 2 ^ k) (hc : c < 2 ^ k) : SmK k q := by
  obtain ⟨m, e, l⟩ := h
  have : q = Rat.divInt m N := by
    rw [Rat.divInt_eq_div, ← e]
    have : (N : Rat) ≠ 0 := by
      have : (0 : Rat) < (N : Rat) := by exact_mod_cast h0
      grind
    rw [Rat.intCast_natCast]
    grind
  rw [this]
  exact SmK.divInt (by omega) (by simpa using hN) (by omega)
/-- a row whose sums may be reckoned -/
def Rok (row : List Rat) : Prop := ∃ N c : Nat, 0 < N ∧ N < 2 ^ 3900 ∧ row.length * c < 2 ^ 3900 ∧ ∀ x ∈ row, Fz N c x
theorem Rok.of_mem {row l : List Rat} (h : Rok row) (hs : ∀ x ∈ l, x ∈ row) (hl : l.length ≤ row.length) : Rok l := by
  obtain ⟨N, c, a, b, d, e⟩ := h
  exact ⟨N, c, a, b, Nat.lt_of_le_of_lt (Nat.mul_le_mul_right _ hl) d, fun x hx => e x (hs x hx)⟩
theorem Rok.sum {row : List Rat} (h : Rok row) : SmK 3900 row.sum := by
  obtain ⟨N, c, a, b, d, e⟩ := h
  exact (Fz.sum e).sm a b d
theorem Rok.one {row : List Rat} (h : Rok row) {x : Rat} (hx : x ∈ row) : SmK 3900 x := by
  have := (h.of_mem (l := [x]) (by simpa using hx) (by
    have := List.length_pos_of_mem hx
    simp; omega)).sum
  rw [List.sum_cons, List.sum_nil] at this
  rwa [Rat.add_zero] at this
theorem Rok.rv {row : List Rat} (h : Rok row) (k : Nat) : SmK 3900 (rv row k) := by
  unfold Q.rv
  by_cases hk : k < row.length
  · rw [List.getD_eq_getElem?_getD, List.getElem?_eq_getElem hk]
    exact h.one (List.getElem_mem hk)
  · rw [List.getD_eq_getElem?_getD, List.getElem?_eq_none (by omega)]
    exact SmK.zero.mono (by decide)
theorem Rok.desc {row : List Rat} (h : Rok row) : Rok (desc row) := h.of_mem (fun x hx => (desc_perm row).mem_iff.mp hx) (by rw [desc_length]; exact Nat.le_refl _)
theorem Rok.take {row : List Rat} (h : Rok row) (k : Nat) : Rok (row.take k) := h.of_mem (fun x hx => List.mem_of_mem_take hx) (by simp; omega)
theorem Rok.top {row : List Rat} (h : Rok row) (k : Nat) : SmK 3900 (top row k) := (h.desc.take k).sum
end Q
namespace Q
open PySem PySem.Spec PyProof.Rows L2
theorem psums_last (c : Rat) (l : List Rat) : ∃ pre, psums c l = pre ++ [c + l.sum] := by
  induction l generalizing c with
  | nil => exact ⟨[], by simp [psums]; grind⟩
  | cons x l ih =>
    obtain ⟨pre, e⟩ := ih (c + x)
    refine ⟨c :: pre, ?_⟩
    rw [psums, e, List.sum_cons]
    simp only [List.cons_append]
    congr 3; grind
theorem psums_take_succ {l : List Rat} {i : Nat} {x : Rat} (h : l[i]? = some x) : psums 0 (l.take (i + 1)) = psums 0 (l.take i) ++ [(l.take i).sum + x] := by
  rw [List.take_add_one, h]
  show psums 0 (l.take i ++ [x]) = _
  rw [psums_snoc]
  congr 2; grind
theorem desc_get {row : List Rat} {i k : Nat} (h : (gf row)[i]? = some k) : (desc row)[i]? = some (rv row k) := by
  unfold desc
  rw [List.getElem?_map, h]; rfl
theorem psums_desc_get {row : List Rat} {i : Nat} {x : Rat} (h : (psums 0 (desc row))[i]? = some x) : i ≤ row.length ∧ x = top row i := by
  have hi : i < (psums 0 (desc row)).length := (List.getElem?_eq_some_iff.mp h).1
  rw [psums_length, desc_length] at hi
  rw [psums_get (by rw [desc_length]; omega)] at h
  refine ⟨by omega, ?_⟩
  have := Option.some.inj h
  rw [← this]; unfold top; grind
theorem fallN_some {W : Int} {row : List Rat} {i : Nat} (hi : i ≤ row.length) (h : bq W row.length i < top row i) (hb : ∀ j, j < i → ¬ bq W row.length j < top row j) : fallN W row = some i := by
  unfold fallN
  rw [List.find?_range_eq_some]
  refine ⟨by simpa using h, by simp; omega, fun j hj => by simpa using hb j hj⟩
theorem bq_sm {W : Int} {n k : Nat} (hW : W.natAbs < 2 ^ 1000) (hn : n < 2 ^ 20) (hk : k ≤ n) : SmK 1100 (bq W n k) := by
  unfold bq
  refine SmK.divInt ?_ (by decide) (by decide)
  have h1 : (W * k).natAbs < 2 ^ (1000 + 20) := natAbs_mul_lt hW (by simp; omega)
  have h2 : ((n : Int) - k).natAbs < 2 ^ 20 := by omega
  exact Nat.lt_of_lt_of_le (natAbs_mul_lt h1 h2) (Nat.pow_le_pow_right (by decide) (by decide))
end Q
set_option maxHeartbeats 4000000
/-! M3: texts of parts and of moments, as lists of code points -/
namespace Q
open PySem PySem.Spec PyProof.Rows L2
abbrev tx (l : List Nat) : Str := SX.S l
def numZ (i : Int) : List Nat := if i < 0 then 45 :: TL.numL i.natAbs else TL.numL i.natAbs
theorem tx_nat (n : Nat) : Str.ofString (toString ((n : Nat) : Int)) = tx (TL.numL n) := SX.num_S n
theorem tx_int (i : Int) : Str.ofString (toString i) = tx (numZ i) := by
  unfold numZ
  cases i with
  | ofNat n =>
    rw [if_neg (by simp)]
    exact tx_nat n
  | negSucc n =>
    have h1 : (Int.negSucc n) < 0 := Int.negSucc_lt_zero n
    rw [if_pos h1]
    have e : toString (Int.negSucc n) = "-" ++ toString ((n + 1 : Nat) : Int) := rfl
    have e2 : Str.ofString (toString (Int.negSucc n)) = tx [45] ++ Str.ofString (toString ((n + 1 : Nat) : Int)) := by
      rw [e]
      rw [Str.ofString_eq_toList, Str.ofString_eq_toList, String.toList_append, SX.S_tl (x := ⟨((toString ((n + 1 : Nat) : Int)).toList.map Char.toNat).toArray⟩) |>.symm, SX.S_cat]
      rfl
    rw [e2, tx_nat, SX.S_cat]
    rfl
def ptL (q : Rat) : List Nat := numZ q.num ++ if q.den = 1 then [] else 47 :: TL.numL q.den
theorem numZ_free {i : Int} {s : Nat} (h : s < 48 ∨ 57 < s) (h2 : s ≠ 45) : s ∉ numZ i := by
  unfold numZ
  split
  · simp [h2, TL.numL_free h]
  · exact TL.numL_free h
theorem ptL_free {q : Rat} {s : Nat} (h : s < 48 ∨ 57 < s) (h2 : s ≠ 45) (h3 : s ≠ 47) : s ∉ ptL q := by
  unfold ptL
  rw [List.mem_append]
  rintro (z | z)
  · exact numZ_free h h2 z
  · split at z
    · simp at z
    · simp [h3, TL.numL_free h] at z
/-- without a minus ahead -/
def unneg (l : List Nat) : List Nat := if l.head? = some 45 then l.tail else l
theorem numL_head (n : Nat) : (TL.numL n).head? ≠ some 45 := by
  intro h
  have : 45 ∈ TL.numL n := List.mem_of_mem_head? h
  exact TL.numL_free (by decide) this
theorem numZ_head (i : Int) (r : List Nat) : ((numZ i ++ r).head? = some 45) ↔ i < 0 := by
  unfold numZ
  split
  · rename_i h; simp [h]
  · rename_i h
    have := TL.numL_ne i.natAbs
    have h2 := numL_head i.natAbs
    cases e : TL.numL i.natAbs with
    | nil => exact absurd e this
    | cons c r' =>
      rw [e] at h2
      simp at h2 ⊢
      constructor
      · intro z; exact absurd z h2
      · intro z; exact absurd z (by omega)
theorem unneg_ptL (q : Rat) : unneg (ptL q) = TL.numL q.num.natAbs ++ if q.den = 1 then [] else 47 :: TL.numL q.den := by
  unfold unneg ptL
  by_cases h : q.num < 0
  · rw [if_pos ((numZ_head _ _).mpr h)]
    unfold numZ
    rw [if_pos h]
    rfl
  · rw [if_neg (fun z => h ((numZ_head _ _).mp z))]
    unfold numZ
    rw [if_neg h]
theorem head_ptL (q : Rat) : ((ptL q).head? = some 45) ↔ q.num < 0 := numZ_head _ _
theorem par_one (r : List Nat) : TL.par [47] [] (r ++ 47 :: []) = TL.par [47] [] (r ++ 47 :: []) := rfl
theorem par_num (n m : Nat) : TL.par [47] [] (TL.numL n ++ 47 :: TL.numL m) = some (TL.numL n, TL.numL m) :=
  SX.par_head (sep := []) (TL.numL m) (TL.numL_free (by decide))
theorem par_num0 (n : Nat) : TL.par [47] [] (TL.numL n) = none := SX.par_head_none (sep := []) (TL.numL_free (by decide))
def okN (l : List Nat) : Prop := l ≠ [] ∧ (∀ c ∈ l, 48 ≤ c ∧ c ≤ 57) ∧ l.length ≤ 4000
instance (l : List Nat) : Decidable (okN l) := by unfold okN; infer_instance
theorem okN_num {n : Nat} (h : (TL.numL n).length ≤ 4000) : okN (TL.numL n) := ⟨TL.numL_ne n, fun c hc => TL.numL_digits n c hc, h⟩
theorem rat_neg_divInt (i : Int) (d : Nat) : Rat.divInt (-i) d = -Rat.divInt i d := by rw [Rat.neg_divInt]
theorem divInt_self (q : Rat) : Rat.divInt q.num q.den = q := Rat.num_divInt_den q
theorem divInt_abs {q : Rat} (h : q.num < 0) : Rat.divInt (q.num.natAbs : Int) q.den = -q := by
  have : (q.num.natAbs : Int) = -q.num := by omega
  rw [this, rat_neg_divInt, divInt_self]
theorem digitsVal_lt : ∀ (l : List Nat), (∀ c ∈ l, 48 ≤ c ∧ c ≤ 57) → ∀ a : Nat, l.foldl (fun acc c => acc * 10 + (c - 48)) a < (a + 1) * 10 ^ l.length
  | [], _, a => by simp
  | c :: r, h, a => by
    rw [List.foldl_cons, List.length_cons]
    have hc := h c (by simp)
    have := digitsVal_lt r (fun d hd => h d (by simp [hd])) (a * 10 + (c - 48))
    refine Nat.lt_of_lt_of_le this ?_
    rw [Nat.pow_succ]
    have : a * 10 + (c - 48) + 1 ≤ (a + 1) * 10 := by omega
    calc _ ≤ (a + 1) * 10 * 10 ^ r.length := Nat.mul_le_mul_right _ this
      _ = _ := by rw [Nat.mul_assoc, Nat.mul_comm 10]
theorem val_lt {l : List Nat} (h : ∀ c ∈ l, 48 ≤ c ∧ c ≤ 57) : NumText.digitsVal l < 10 ^ l.length := by
  have := digitsVal_lt l h 0
  simpa [NumText.digitsVal] using this
theorem pow10_lt (n : Nat) : 10 ^ n ≤ 2 ^ (4 * n) := by
  rw [Nat.pow_mul]
  exact Nat.pow_le_pow_left (by decide) n
theorem val_bits {l : List Nat} (h : okN l) {k : Nat} (hk : l.length ≤ k) : NumText.digitsVal l < 2 ^ (4 * k) :=
  Nat.lt_of_lt_of_le (val_lt h.2.1) (Nat.le_trans (Nat.pow_le_pow_right (by decide) hk) (pow10_lt k))
theorem numL_len4 {n k : Nat} (hk : 0 < k) (h : n < 2 ^ (3 * k)) : (TL.numL n).length ≤ k := TL.numL_len hk (Nat.lt_of_lt_of_le h (by
  rw [Nat.pow_mul]
  exact Nat.pow_le_pow_left (by decide) k))
theorem numZ_len {i : Int} {k : Nat} (hk : 0 < k) (h : i.natAbs < 2 ^ (3 * k)) : (numZ i).length ≤ k + 1 := by
  unfold numZ
  have := numL_len4 hk h
  split <;> simp <;> omega
theorem ptL_len {q : Rat} {k : Nat} (hk : 0 < k) (h : SmK (3 * k) q) : (ptL q).length ≤ 2 * k + 2 := by
  unfold ptL
  have h1 := numZ_len hk h.1
  have h2 := numL_len4 hk h.2
  split <;> simp <;> omega
/-! ### moments -/
def seatL (s : List Nat × Rat) : List Nat := [115, 101, 97, 116] ++ 32 :: ((if s.1 = [] then [45] else s.1) ++ 32 :: ptL s.2)
def headL (W : Int) : List Nat := [119, 101, 105, 103, 104, 116, 32] ++ numZ W
def momL (W : Int) (seats : List (List Nat × Rat)) : List Nat := ((headL W :: seats.map seatL).map (· ++ [10])).flatten
theorem flat_join : ∀ (ls : List (List Nat)), ls ≠ [] → (ls.map (· ++ [10])).flatten = TL.joinL [10] ls ++ [10]
  | [], h => absurd rfl h
  | [l], _ => by simp [TL.joinL]
  | l :: m :: r, _ => by
    have := flat_join (m :: r) (by simp)
    rw [List.map_cons, List.flatten_cons, this]
    show _ = (l ++ ([10] ++ TL.joinL [10] (m :: r))) ++ [10]
    simp
theorem flat_join2 : ∀ (ls : List (List Nat)), ls ≠ [] → (ls.map (· ++ [10])).flatten = TL.joinL [10] (ls ++ [[]])
  | [], h => absurd rfl h
  | [l], _ => by simp [TL.joinL]
  | l :: m :: r, _ => by
    have := flat_join2 (m :: r) (by simp)
    rw [List.map_cons, List.flatten_cons, this]
    show _ = l ++ ([10] ++ TL.joinL [10] (m :: r ++ [[]]))
    simp
/-- a name, or nothing -/
def okNm (n : List Nat) : Prop := n.length ≤ 8 ∧ ∀ c ∈ n, 97 ≤ c ∧ c ≤ 122
instance (n : List Nat) : Decidable (okNm n) := by unfold okNm; infer_instance
theorem okNm.free {n : List Nat} (h : okNm n) {s : Nat} (hs : s < 97 ∨ 122 < s) : s ∉ n := fun z => by
  have := h.2 s z
  omega
theorem seatL_free {s : List Nat × Rat} (h : okNm s.1) : 10 ∉ seatL s := by
  unfold seatL
  intro z
  simp only [List.mem_append, List.mem_cons, List.not_mem_nil, or_false] at z
  rcases z with z | z | z | z | z
  · omega
  · omega
  · split at z
    · simp at z
    · exact h.free (by decide) z
  · omega
  · exact ptL_free (by decide) (by decide) (by decide) z
theorem headL_free (W : Int) : 10 ∉ headL W := by
  unfold headL
  intro z
  rw [List.mem_append] at z
  rcases z with z | z
  · simp at z
  · exact numZ_free (by decide) (by decide) z
theorem spl_mom {W : Int} {seats : List (List Nat × Rat)} (h : ∀ s ∈ seats, okNm s.1) : TL.spl [10] 0 [] (momL W seats) = headL W :: (seats.map seatL ++ [[]]) := by
  unfold momL
  rw [flat_join2 _ (by simp)]
  rw [SX.spl_join (sep := []) (by simp)]
  · rfl
  · intro p hp
    rcases List.mem_append.mp hp with hp | hp
    · rcases List.mem_cons.mp hp with rfl | hp
      · exact headL_free W
      · obtain ⟨s, hs, rfl⟩ := List.mem_map.mp hp
        exact seatL_free (h s hs)
    · simp at hp; subst hp; simp
theorem spl_seat {s : List Nat × Rat} (h : okNm s.1) : TL.spl [32] 0 [] (seatL s) = [[115, 101, 97, 116], if s.1 = [] then [45] else s.1, ptL s.2] := by
  have e : seatL s = TL.joinL [32] [[115, 101, 97, 116], if s.1 = [] then [45] else s.1, ptL s.2] := by
    simp [seatL, TL.joinL]
  rw [e, SX.spl_join (sep := []) (by simp)]
  intro p hp
  simp only [List.mem_cons, List.not_mem_nil, or_false] at hp
  rcases hp with rfl | rfl | rfl
  · simp
  · split
    · simp
    · exact h.free (by decide)
  · exact ptL_free (by decide) (by decide) (by decide)
def encS (s : List Nat × Rat) : D := .tup [.str (tx s.1), encQ s.2]
def encM (W : Int) (seats : List (List Nat × Rat)) : D := .tup [.int W, .tup (seats.map encS)]
end Q
namespace Q
open PySem PySem.Spec PyProof.Rows L2
theorem lit_letters : (Str.ofString "abcdefghijklmnopqrstuvwxyz") = tx [97, 98, 99, 100, 101, 102, 103, 104, 105, 106, 107, 108, 109, 110, 111, 112, 113, 114, 115, 116, 117, 118, 119, 120, 121, 122] := by decide +kernel
theorem lit_figures : (Str.ofString "0123456789") = tx [48, 49, 50, 51, 52, 53, 54, 55, 56, 57] := by decide +kernel
theorem lit_minus : (Str.ofString "-") = tx [45] := by decide +kernel
theorem lit_stroke : (Str.ofString "/") = tx [47] := by decide +kernel
theorem lit_empty : (Str.ofString "") = tx [] := by decide +kernel
theorem lit_seat : (Str.ofString "seat") = tx [115, 101, 97, 116] := by decide +kernel
theorem lit_seatb : (Str.ofString "seat ") = tx [115, 101, 97, 116, 32] := by decide +kernel
theorem lit_weight : (Str.ofString "weight ") = tx [119, 101, 105, 103, 104, 116, 32] := by decide +kernel
theorem lit_blank : (Str.ofString " ") = tx [32] := by decide +kernel
theorem lit_nl : (Str.ofString "\n") = tx [10] := by decide +kernel
theorem letters_mem (c : Nat) : decide (c ∈ (tx [97, 98, 99, 100, 101, 102, 103, 104, 105, 106, 107, 108, 109, 110, 111, 112, 113, 114, 115, 116, 117, 118, 119, 120, 121, 122]).cps.toList) = decide (97 ≤ c ∧ c ≤ 122) := by
  rw [decide_eq_decide]
  simp
  omega
theorem figures_mem (c : Nat) : decide (c ∈ (tx [48, 49, 50, 51, 52, 53, 54, 55, 56, 57]).cps.toList) = decide (48 ≤ c ∧ c ≤ 57) := by
  rw [decide_eq_decide]
  simp
  omega
/-- a name -/
def nmOk (l : List Nat) : Prop := l ≠ [] ∧ okNm l
instance (l : List Nat) : Decidable (nmOk l) := by unfold nmOk; infer_instance
theorem okNm_iff (l : List Nat) : okNm l ↔ nmOk l ∨ l = [] := by
  unfold nmOk
  by_cases h : l = []
  · subst h; simp [okNm]
  · simp [h]
def nms (seats : List (List Nat × Rat)) : List (List Nat) := (seats.map (·.1)).filter (· ≠ [])
def owL (seats : List (List Nat × Rat)) : List Rat := seats.map (·.2)
/-- a moment that may be -/
def Good (W : Int) (seats : List (List Nat × Rat)) : Prop := 1 ≤ W ∧ (∀ s ∈ seats, okNm s.1) ∧ (nms seats).Nodup ∧ Fits W (owL seats)
instance (W : Int) (seats : List (List Nat × Rat)) : Decidable (Good W seats) := by unfold Good; infer_instance
theorem tx_length (l : List Nat) : (tx l).length = l.length := SX.S_len l
theorem tx_ne {a b : List Nat} : tx a = tx b ↔ a = b := ⟨SX.S_inj, fun h => by rw [h]⟩
end Q
namespace Q
open PySem PySem.Spec PyProof.Rows L2
def isNmD : D → Bool
  | .str z => decide (nmOk z.cps.toList)
  | _ => false
def isWtD : D → Bool
  | .int i => decide (1 ≤ i)
  | _ => false
theorem filter_nms (seats : List (List Nat × Rat)) : seats.filterMap (fun s => if s.1 = [] then none else some (D.str (tx s.1))) = (nms seats).map fun n => .str (tx n) := by
  unfold nms
  induction seats with
  | nil => rfl
  | cons s r ih => by_cases h0 : s.1 = [] <;> simp_all
theorem not_str {a : D} {G : GH} {T : String} (h : tyN a G = some T) (hs : ¬ ∃ z, a = .str z) : isN T "str" = false ∧ isNmD a = false := by
  cases a with
  | str z => exact absurd ⟨z, rfl⟩ hs
  | ref x =>
    unfold tyN at h
    simp only at h
    split at h <;> first | (cases h; exact ⟨rfl, rfl⟩) | cases h
  | ty _ => cases h
  | _ => cases h; exact ⟨rfl, rfl⟩
end Q
namespace Q
open PySem PySem.Spec PyProof.Rows L2
def nmK (n : List Nat) : Key := .inr (tx n)
theorem nmK_inj {a b : List Nat} (h : nmK a = nmK b) : a = b := tx_ne.mp (Sum.inr.inj h)
theorem cnt_nms (l : List (List Nat)) : ((cntK (l.map nmK).reverse : Nat) = l.length) ↔ l.Nodup := by
  have h := cntK_eq (l.map nmK).reverse
  rw [List.length_reverse, List.length_map, List.Perm.nodup_iff (List.reverse_perm _)] at h
  rw [h]
  constructor
  · intro h
    rw [List.nodup_iff_pairwise_ne] at h ⊢
    rw [List.pairwise_map] at h
    exact h.imp fun h e => h (by rw [e])
  · intro h
    rw [List.nodup_iff_pairwise_ne] at h ⊢
    rw [List.pairwise_map]
    exact h.imp fun h e => h (nmK_inj e)
theorem nms_length (seats : List (List Nat × Rat)) : (nms seats).length ≤ seats.length := by
  unfold nms
  refine Nat.le_trans (List.length_filter_le ..) (by simp)
end Q
set_option maxHeartbeats 4000000
/-! M4: texts read -/
namespace Q
open PySem PySem.Spec PyProof.Rows L2
theorem subAt_tx (l p : List Nat) : Builtin.Str.subAt (tx l) (tx p) 0 = (l.take p.length == p) := by
  rw [PySem.StrLaws.subAt_eq]
  simp [SX.S, Str.length]
theorem startswith_tx (l p : List Nat) : Txt.startswith (tx l) (tx p) = (l.take p.length == p) := by
  unfold Txt.startswith
  rw [subAt_tx, tx_length, tx_length]
  by_cases h : l.take p.length = p
  · have : p.length ≤ l.length := by
      have := congrArg List.length h
      simp at this; omega
    simp [h, this]
  · simp [h]
theorem removeprefix_tx (l p : List Nat) : Txt.removeprefix (tx l) (tx p) = tx (if l.take p.length = p then l.drop p.length else l) := by
  unfold Txt.removeprefix
  rw [subAt_tx, tx_length, tx_length]
  by_cases h : l.take p.length = p
  · simp only [h, beq_self_eq_true, if_true]
    unfold Txt.affix
    simp only
    split
    · rename_i h2
      have : p.length = 0 ∨ l.length = 0 := by
        simp [tx_length] at h2
        omega
      rcases this with h0 | h0
      · rw [h0]; rfl
      · have : l = [] := List.length_eq_zero_iff.mp h0
        subst this; simp
    · refine TL.ext_tl ?_
      simp [Builtin.Str.strSub, TL.tl, SX.S, List.take_of_length_le]
  · have h2 : (l.take p.length == p) = false := by simpa using h
    simp only [h, h2, Bool.false_eq_true, if_false]
    rfl
theorem unneg_tx (l : List Nat) : Txt.removeprefix (tx l) (tx [45]) = tx (unneg l) := by
  rw [removeprefix_tx]
  unfold unneg
  cases l with
  | nil => rfl
  | cons c r => by_cases h : c = 45 <;> simp [h]
theorem minus_tx (l : List Nat) : Txt.startswith (tx l) (tx [45]) = decide (l.head? = some 45) := by
  rw [startswith_tx]
  cases l with
  | nil => rfl
  | cons c r => by_cases h : c = 45 <;> simp [h]
/-- what is read as a part -/
def rdP (l : List Nat) : Option Rat :=
  let g : Rat → Option Rat := fun f => let h := if l.head? = some 45 then -f else f; if ptL h = l then some h else none
  match TL.par [47] [] (unneg l) with
  | some (p, s) => if okN p ∧ okN s then g (Rat.divInt (NumText.digitsVal p) (max 1 (NumText.digitsVal s) : Nat)) else none
  | none => if okN (unneg l) then g ((NumText.digitsVal (unneg l) : Int) : Rat) else none
theorem rdP_some {l : List Nat} {q : Rat} (h : rdP l = some q) : ptL q = l := by
  have go : ∀ f : Rat, (let h := if l.head? = some 45 then -f else f; if ptL h = l then some h else none) = some q → ptL q = l := by
    intro f h
    simp only at h
    by_cases e : ptL (if l.head? = some 45 then -f else f) = l
    · rw [if_pos e] at h; cases h; exact e
    · rw [if_neg e] at h; cases h
  unfold rdP at h
  simp only at h
  split at h
  · split at h
    · exact go _ h
    · cases h
  · split at h
    · exact go _ h
    · cases h
theorem rdP_ptL (q : Rat) (hl : (ptL q).length ≤ 4000) : rdP (ptL q) = some q := by
  have hu := unneg_ptL q
  have hh := head_ptL q
  have hul : (unneg (ptL q)).length ≤ 4000 := by
    unfold unneg
    split
    · rw [List.length_tail]; omega
    · exact hl
  unfold rdP
  simp only
  have hval : ∀ f : Rat, f = (if q.num < 0 then -q else q) → (if (ptL q).head? = some 45 then -f else f) = q := by
    rintro f rfl
    by_cases h : q.num < 0
    · rw [if_pos (hh.mpr h), if_pos h]; simp
    · rw [if_neg (fun z => h (hh.mp z)), if_neg h]
  by_cases hd : q.den = 1
  · rw [if_pos hd, List.append_nil] at hu
    rw [hu] at hul ⊢
    rw [par_num0]
    simp only
    rw [if_pos (okN_num hul), TL.numL_val]
    rw [hval _ ?_, if_pos rfl]
    have e : q = (q.num : Rat) := by
      conv => lhs; rw [← divInt_self q, hd]
      rw [Rat.divInt_eq_div, Rat.div_def]; grind
    by_cases h : q.num < 0
    · rw [if_pos h]
      have : (q.num.natAbs : Int) = -q.num := by omega
      rw [this, Rat.intCast_neg, ← e]
    · rw [if_neg h]
      have : (q.num.natAbs : Int) = q.num := by omega
      rw [this, ← e]
  · rw [if_neg hd] at hu
    rw [hu] at hul ⊢
    rw [par_num]
    simp only
    rw [List.length_append, List.length_cons] at hul
    rw [if_pos ⟨okN_num (by omega), okN_num (by omega)⟩, TL.numL_val, TL.numL_val]
    have : max 1 q.den = q.den := by have := q.den_pos; omega
    rw [this, hval _ ?_, if_pos rfl]
    by_cases h : q.num < 0
    · rw [if_pos h, divInt_abs h]
    · rw [if_neg h]
      have : (q.num.natAbs : Int) = q.num := by omega
      rw [this, divInt_self]
theorem enc_int (i : Int) : encQ (i : Rat) = .tup [.int i, .int 1] := rfl
theorem enc_neg (q : Rat) : encQ (-q) = .tup [.int (-q.num), .int q.den] := rfl
theorem join_nil (ls : List (List Nat)) : TL.joinL [] ls = ls.flatten := by
  induction ls with
  | nil => rfl
  | cons l r ih =>
    cases r with
    | nil => simp [TL.joinL]
    | cons m r =>
      show l ++ ([] ++ TL.joinL [] (m :: r)) = _
      rw [ih]; simp
theorem join_tx (a : List Nat) (ys : List (List Nat)) : Txt.join (tx a) (ys.map tx) = tx (TL.joinL a ys) := SX.join_S a ys
theorem split_tx {a b : List Nat} (hb : b ≠ []) (hk : b.all (· < 256) = true) : Txt.split (tx a) (tx b) = (TL.spl b 0 [] a).map tx := SX.split_S hb hk
theorem cut_last (l : List D) (d : D) : cutD (l ++ [d]) none (some (-1)) = l := by
  unfold cutD
  have e1 : HT.sIx (l ++ [d]).length 0 none = 0 := rfl
  have e2 : HT.sIx (l ++ [d]).length (l ++ [d]).length (some (-1)) = l.length := by
    unfold HT.sIx
    simp; omega
  rw [e1, e2]
  simp
theorem log_of {i : Int} {k : Nat} (h : i.natAbs < 2 ^ k) (h0 : 0 < k) (hk : k ≤ 1920) : i.natAbs.log2 < 1920 := Nat.lt_of_lt_of_le (log2_lt h0 h) hk
theorem tx_app (a b : List Nat) : tx a ++ tx b = tx (a ++ b) := SX.S_cat a b
theorem empty_tx : Str.empty = tx [] := rfl
theorem seatL_len {s : List Nat × Rat} (h : s.1.length ≤ 100) (h2 : SmK 300 s.2) : (seatL s).length ≤ 400 := by
  have := ptL_len (k := 100) (by decide) h2
  unfold seatL
  have h3 : (if s.1 = [] then [45] else s.1).length ≤ 100 := by
    split
    · simp
    · exact h
  simp only [List.length_append, List.length_cons, List.length_nil]
  omega
theorem sum_le {α : Type} {f : α → Nat} {c : Nat} : ∀ {l : List α}, (∀ x ∈ l, f x ≤ c) → (l.map f).sum ≤ l.length * c
  | [], _ => by simp
  | x :: l, h => by
    rw [List.map_cons, List.sum_cons, List.length_cons, Nat.add_mul, Nat.one_mul, Nat.add_comm]
    exact Nat.add_le_add (sum_le fun y hy => h y (by simp [hy])) (h x (by simp))
end Q
namespace Q
open PySem PySem.Spec PyProof.Rows L2
theorem par_len {p s : List Nat} {S : List Nat} (hS : S ≠ []) : ∀ {r acc : List Nat}, TL.par S acc r = some (p, s) → p.length + s.length ≤ acc.length + r.length
  | [], acc, h => by cases h
  | c :: r, acc, h => by
    unfold TL.par at h
    split at h
    · cases h
      have : ((c :: r).drop S.length).length ≤ (c :: r).length := by simp
      omega
    · have := par_len hS h
      simp at this ⊢
      omega
theorem intD_max1 (n : Nat) : (if ((n : Nat) : Int) > 1 then ((n : Nat) : Int) else 1) = ((max 1 n : Nat) : Int) := by
  split <;> omega
end Q
namespace Q
open PySem PySem.Spec PyProof.Rows L2
theorem momL_eq (W : Int) (seats : List (List Nat × Rat)) : TL.joinL [] ((headL W :: seats.map seatL).map (· ++ [10])) = momL W seats := by
  rw [join_nil]; rfl
/-- sizes of a moment's text -/
structure TxOk (W : Int) (seats : List (List Nat × Rat)) : Prop where
  w : W.natAbs < 2 ^ 900
  s : ∀ s ∈ seats, SmK 300 s.2 ∧ s.1.length ≤ 100
  n : seats.length ≤ 3000
theorem TxOk.sizes {W : Int} {seats : List (List Nat × Rat)} (h : TxOk W seats) : (((headL W :: seats.map seatL).map (· ++ [10])).map (·.length)).sum ≤ 1300000 := by
  have hw : (numZ W).length ≤ 301 := numZ_len (k := 300) (by decide) h.w
  have := sum_le (f := (·.length)) (c := 408) (l := (headL W :: seats.map seatL).map (· ++ [10])) fun x hx => by
    obtain ⟨y, hy, rfl⟩ := List.mem_map.mp hx
    rcases List.mem_cons.mp hy with rfl | hy
    · simp [headL]; omega
    · obtain ⟨s, hs, rfl⟩ := List.mem_map.mp hy
      have := seatL_len (h.s s hs).2 (h.s s hs).1
      simp; omega
  have hn := h.n
  simp at this ⊢
  omega
theorem flatten_length (ls : List (List Nat)) : ls.flatten.length = (ls.map (·.length)).sum := by
  induction ls with
  | nil => rfl
  | cons l r ih => simp [ih]
theorem momL_len {W : Int} {seats : List (List Nat × Rat)} (h : TxOk W seats) : (momL W seats).length ≤ 1300000 := by
  unfold momL
  rw [flatten_length]
  exact h.sizes
theorem numZ_pt (W : Int) : ptL (W : Rat) = numZ W := by
  unfold ptL
  rw [if_pos (by simp), List.append_nil]; simp
end Q
namespace Q
open PySem PySem.Spec PyProof.Rows L2
theorem ixD_ref {G : GH} {p : Addr} {ds : List D} {i : Nat} {d : D} {Q : QK} (h : G p = some (.lst ds)) (hd : ds[i]? = some d) (q : Q d G) : ixD (.ref p) (.int (i : Int)) G Q := ixD_seq (x := .ref p) h hd q
theorem okNm.not_minus {n : List Nat} (h : okNm n) : n ≠ [45] := by
  rintro rfl
  have := h.2 45 (by simp)
  omega
theorem slD_lst {G : GH} {p : Addr} {ds : List D} {lo hi : Option Int} {Q : QK} (h : G p = some (.lst ds)) (q : ∀ r, G r = none → Q (.ref r) (gupd G r (.lst (cutD ds lo hi)))) : slD (.ref p) lo hi G Q := ⟨ds, h, q⟩
end Q
set_option maxHeartbeats 4000000
/-! M5: what the law draws -/
namespace Q
open PySem PySem.Spec PyProof.Rows L2
def txs (us : List (List Nat)) : List D := us.map fun n => D.str (tx n)
theorem strs_any (us : List (List Nat)) (n : List Nat) : (txs us).any (fun z => eqF z (.str (tx n))) = decide (n ∈ us) := by
  unfold txs
  induction us with
  | nil => rfl
  | cons u r ih =>
    rw [List.map_cons, List.any_cons, ih]
    have : eqF (.str (tx u)) (.str (tx n)) = decide (u = n) := by
      show (tx u == tx n) = _
      rw [SX.S_beq_eq]
    rw [this, Bool.eq_iff_iff]
    simp only [Bool.or_eq_true, decide_eq_true_eq, List.mem_cons]
    exact ⟨fun h => h.imp Eq.symm id, fun h => h.imp Eq.symm id⟩
theorem strs_flat (us : List (List Nat)) : (txs us).all flatD = true := by
  unfold txs
  simp [flatD]
theorem inD_strs {G : GH} {u : Addr} {us : List (List Nat)} {n : List Nat} {neg : Bool} {Q : QK} (h : G u = some (.lst (txs us))) (q : Q (.bl (neg ^^ decide (n ∈ us))) G) : inD neg (.str (tx n)) (.ref u) G Q :=
  ⟨_, h, rfl, strs_flat us, by rw [strs_any]; exact q⟩
theorem strs_pot {G : GH} {u p : Addr} {us : List (List Nat)} (h : G u = some (.lst (txs us))) (hp : Pot G p) : u ≠ p := by
  rintro rfl
  obtain ⟨a, b, e, _⟩ := hp
  rw [h] at e
  unfold potO at e
  have e := GO.lst.inj (Option.some.inj e)
  unfold txs at e
  cases us with
  | nil => cases e
  | cons u r => cases e
def abc : List Nat := [97, 98, 99, 100, 101, 102, 103, 104, 105, 106, 107, 108, 109, 110, 111, 112, 113, 114, 115, 116, 117, 118, 119, 120, 121, 122]
theorem abc_ok {c : Nat} (h : c ∈ abc) : 97 ≤ c ∧ c ≤ 122 := by
  simp [abc] at h; omega
theorem abc_length : abc.length = 26 := rfl
theorem nodup_le {α : Type} [DecidableEq α] : ∀ {l m : List α}, l.Nodup → (∀ x ∈ l, x ∈ m) → l.length ≤ m.length
  | [], m, _, _ => Nat.zero_le _
  | a :: l, m, h, hs => by
    have ha := hs a (by simp)
    have hn := List.nodup_cons.mp h
    have : l.length ≤ (m.erase a).length := nodup_le hn.2 fun x hx => by
      have : x ≠ a := by rintro rfl; exact hn.1 hx
      exact (List.mem_erase_of_ne this).mpr (hs x (by simp [hx]))
    rw [List.length_erase_of_mem ha] at this
    have := List.length_pos_of_mem ha
    simp; omega
theorem abc_free {us : List (List Nat)} (h : us.length ≤ 20) : ∃ c ∈ abc, [c] ∉ us := by
  refine Classical.byContradiction fun hc => ?_
  have hall : ∀ x ∈ abc.map (fun c => [c]), x ∈ us := fun x hx => by
    obtain ⟨c, hc', rfl⟩ := List.mem_map.mp hx
    exact Classical.byContradiction fun z => hc ⟨c, hc', z⟩
  have hnd : (abc.map fun c => [c]).Nodup := by decide
  have := nodup_le hnd hall
  rw [List.length_map, abc_length] at this
  omega
theorem nmOk_one {c : Nat} (h : c ∈ abc) : nmOk [c] := ⟨by simp, by simp, by simpa using abc_ok h⟩
theorem nmOk_two {c : Nat} (h : c ∈ abc) : nmOk [c, 113] := ⟨by simp, by simp, by have := abc_ok h; simp; omega⟩
end Q
namespace Q
open PySem PySem.Spec PyProof.Rows L2
theorem ixD_pick {G : GH} {q : Addr} {ds : List D} {d : Int} {Q : QK} (h : G q = some (.lst ds)) (h0 : 0 ≤ d) (h1 : d < ds.length) (k : ∀ x ∈ ds, Q x G) : ixD (.ref q) (.int d) G Q := by
  obtain ⟨i, rfl⟩ := Int.eq_ofNat_of_zero_le h0
  have hi : i < ds.length := by omega
  exact ixD_ref h (List.getElem?_eq_getElem hi) (k _ (List.getElem_mem hi))
theorem ixD_txt {G : GH} {l : List Nat} {d : Int} {Q : QK} (hl : l.length ≤ sizeLine) (h0 : 0 ≤ d) (h1 : d < l.length) (k : ∀ c ∈ l, Q (.str (tx [c])) G) : ixD (.str (tx l)) (.int d) G Q := by
  obtain ⟨i, rfl⟩ := Int.eq_ofNat_of_zero_le h0
  have hi : i < l.length := by omega
  refine ⟨by rw [tx_length]; exact hl, l[i], ?_, k _ (List.getElem_mem hi)⟩
  unfold atI ixN
  rw [if_pos (by omega), if_pos (by simpa using h1)]
  simp [hi]
theorem join_ones (cs : List Nat) : TL.joinL [] (cs.map fun c => [c]) = cs := by
  rw [join_nil]
  induction cs with
  | nil => rfl
  | cons c r ih => simp [ih]
theorem joinD_ones {G : GH} {l : Addr} {cs : List Nat} {Q : QK} (h : G l = some (.lst (cs.map fun c => D.str (tx [c])))) (hz : cs.length ≤ 1000000) (q : Q (.str (tx cs)) G) : joinD (.str (tx [])) [.ref l] G Q := by
  refine ⟨(cs.map fun c => [c]).map tx, ?_, ?_, ?_⟩
  · show G l = _
    rw [h]; simp [Function.comp_def]
  · have := sum_le (f := fun c : Nat => (tx [c]).length) (c := 1) (l := cs) fun c _ => by rw [tx_length]; simp
    simp [Function.comp_def, SX.S_len] at this ⊢
    omega
  · rw [join_tx, join_ones]; exact q
end Q
namespace Q
open PySem PySem.Spec PyProof.Rows L2
theorem lit_q : (Str.ofString "q") = tx [113] := by decide +kernel
end Q
namespace Q
open PySem PySem.Spec PyProof.Rows L2
def nls (l : List Nat) : List D := l.map fun k : Nat => D.int k
theorem sees_nls {G : GH} : ∀ l : List Nat, SeesAll G (nls l) (l.map fun k : Nat => PyData.int k)
  | [] => .nil
  | k :: r => .cons (.int _) (sees_nls r)
theorem nls_depth : ∀ l : List Nat, PyData.depthAll (l.map fun k : Nat => PyData.int k) ≤ 2
  | [] => by simp [PyData.depthAll]
  | k :: r => by
    have := nls_depth r
    simp only [List.map_cons, PyData.depthAll, PyData.depth]
    omega
theorem nls_lay : ∀ l : List Nat, PyData.canLayAll0 (l.map fun k : Nat => PyData.int k) = true
  | [] => by simp [PyData.canLayAll0]
  | k :: r => by
    have := nls_lay r
    simp [PyData.canLayAll0, PyData.canLay0, this]
theorem nls_shaped (l : List Nat) : SeqAt.shaped (.list (l.map fun k : Nat => PyData.int k)) = true := by
  have h2 : PyData.depth (.list (l.map fun k : Nat => PyData.int k)) ≤ 64 := by
    have := nls_depth l
    simp only [PyData.depth]
    omega
  unfold SeqAt.shaped
  rw [Bool.and_eq_true]
  exact ⟨by simp only [PyData.canLay0]; exact nls_lay l, decide_eq_true h2⟩
/-- left != [] -/
theorem neD_nil {G : GH} {p q : Addr} {l : List Nat} {Q : QK} (h : G p = some (.lst (nls l))) (h2 : G q = some (.lst [])) (k : Q (.bl (decide (l ≠ []))) G) : neD (.ref p) (.ref q) G Q := by
  refine ⟨_, _, .lst h (sees_nls l), .lst h2 .nil, nls_shaped l, rfl, ?_⟩
  have e : (!PyData.eqv (.list (l.map fun k : Nat => PyData.int k)) (.list [])) = decide (l ≠ []) := by
    cases l <;> simp [PyData.eqv, PyData.eqvAll]
  rw [e]; exact k
theorem range_nls (n : Nat) : rangeD 0 n = nls (List.range n) := by
  unfold rangeD nls
  simp
theorem nls_filter (l : List Nat) (p : Nat → Bool) : l.filterMap (fun k : Nat => if p k then some (D.int k) else none) = nls (l.filter p) := by
  unfold nls
  induction l with
  | nil => rfl
  | cons k r ih => by_cases h : p k <;> simp [h, ih]
/-- one taken out -/
theorem take_out {L : List Nat} (hn : L.Nodup) {m : Nat} (hm : m ∈ L) : L.Perm (m :: L.filter fun k => !decide (k = m)) := by
  induction L with
  | nil => cases hm
  | cons k r ih =>
    have hk := List.nodup_cons.mp hn
    by_cases e : k = m
    · subst e
      have : r.filter (fun x => !decide (x = k)) = r := by
        rw [List.filter_eq_self]
        intro x hx
        have : x ≠ k := by rintro rfl; exact hk.1 hx
        simp [this]
      simp [this]
    · have hm' : m ∈ r := by
        rcases List.mem_cons.mp hm with h | h
        · exact absurd h.symm e
        · exact h
      have := (ih hk.2 hm').cons k
      simp [e]
      exact this.trans (List.Perm.swap ..)
end Q
set_option maxHeartbeats 4000000
/-! M6: the law's rows, weights, moments -/
namespace Q
open PySem PySem.Spec PyProof.Rows L2
/-- a row as the law draws it -/
def LRow (row : List Rat) : Prop := ∃ N c : Nat, 0 < N ∧ N ≤ 2 ^ 20 ∧ c ≤ 2 ^ 120 ∧ ∀ x ∈ row, Fz N c x
theorem LRow.rok {row : List Rat} (h : LRow row) (hn : row.length ≤ 20) : Rok row := by
  obtain ⟨N, c, h0, h1, h2, h3⟩ := h
  refine ⟨N, c, h0, Nat.lt_of_le_of_lt h1 (Nat.pow_lt_pow_right (by decide) (by decide)), ?_, h3⟩
  have : row.length * c ≤ 2 ^ 5 * 2 ^ 120 := Nat.mul_le_mul (Nat.le_trans hn (by decide)) h2
  rw [← Nat.pow_add] at this
  exact Nat.lt_of_le_of_lt this (Nat.pow_lt_pow_right (by decide) (by decide))
theorem LRow.one {row : List Rat} (h : LRow row) {x : Rat} (hx : x ∈ row) : SmK 200 x := by
  obtain ⟨N, c, h0, h1, h2, h3⟩ := h
  exact (h3 x hx).sm h0 (Nat.lt_of_le_of_lt h1 (Nat.pow_lt_pow_right (by decide) (by decide))) (Nat.lt_of_le_of_lt h2 (Nat.pow_lt_pow_right (by decide) (by decide)))
theorem LRow.sum {row l : List Rat} (h : LRow row) (hm : ∀ x ∈ l, x ∈ row) (hl : l.length ≤ 20) : SmK 150 l.sum := by
  obtain ⟨N, c, h0, h1, h2, h3⟩ := h
  refine (Fz.sum fun x hx => h3 x (hm x hx)).sm h0 (Nat.lt_of_le_of_lt h1 (Nat.pow_lt_pow_right (by decide) (by decide))) ?_
  have : l.length * c ≤ 2 ^ 5 * 2 ^ 120 := Nat.mul_le_mul (Nat.le_trans hl (by decide)) h2
  rw [← Nat.pow_add] at this
  exact Nat.lt_of_le_of_lt this (Nat.pow_lt_pow_right (by decide) (by decide))
theorem LRow.top {row : List Rat} (h : LRow row) (hn : row.length ≤ 20) (k : Nat) : SmK 150 (top row k) :=
  h.sum (fun x hx => (desc_perm row).mem_iff.mp (List.mem_of_mem_take hx)) (by have := desc_length row; simp; omega)
theorem ten29 : (10 : Nat) ^ 29 < 2 ^ 97 := by decide
theorem fz_part {a d : Int} {e : Nat} (hd : 0 < d) (he : d * e = 60) (ha : a.natAbs ≤ 10 ^ 29) : Fz 60 (60 * 10 ^ 29) (Rat.divInt a d) := by
  refine ⟨a * e, ?_, ?_⟩
  · rw [Rat.divInt_eq_div]
    have h1 : ((d : Int) : Rat) ≠ 0 := by
      intro z
      have : d = 0 := by exact_mod_cast z
      omega
    have h2 : ((60 : Nat) : Rat) = (d : Rat) * (e : Rat) := by
      have : ((d * e : Int) : Rat) = ((60 : Int) : Rat) := by rw [he]
      rw [Rat.intCast_mul, Rat.intCast_natCast] at this
      rw [this]; rfl
    rw [h2, Rat.intCast_mul, Rat.intCast_natCast]
    grind
  · rw [Int.natAbs_mul]
    have : e ≤ 60 := by
      have h1 : (1 : Int) * e ≤ d * e := Int.mul_le_mul_of_nonneg_right hd (by omega)
      omega
    calc a.natAbs * (e : Int).natAbs ≤ 10 ^ 29 * 60 := Nat.mul_le_mul ha (by simpa using this)
      _ = _ := by decide
/-- each less the mean -/
def level (xs : List Rat) : List Rat := xs.map fun x => x + Rat.divInt (0 - xs.sum.num) (xs.sum.den * xs.length)
theorem level_val (xs : List Rat) : Rat.divInt (0 - xs.sum.num) (xs.sum.den * xs.length) = -(xs.sum / xs.length) := by
  by_cases h : xs.length = 0
  · rw [h]
    have : xs = [] := List.length_eq_zero_iff.mp h
    subst this
    simp [Rat.div_def]
  · have h2 : (0 : Int) < xs.length := by omega
    have := shared_eq (-xs.sum) h2
    rw [show (0 - xs.sum.num) = (-xs.sum).num by simp, show (xs.sum.den : Int) = ((-xs.sum).den : Int) by simp, this, Rat.intCast_natCast]
    rw [Rat.div_def, Rat.div_def]; grind
theorem sum_add_const (xs : List Rat) (c : Rat) : (xs.map fun x => x + c).sum = xs.sum + xs.length * c := by
  induction xs with
  | nil => simp; grind
  | cons x r ih =>
    simp only [List.map_cons, List.sum_cons, ih, List.length_cons]
    rw [Rat.natCast_add]
    have : ((1 : Nat) : Rat) = 1 := rfl
    rw [this]
    grind
theorem level_sum (xs : List Rat) : (level xs).sum = 0 := by
  unfold level
  rw [level_val, sum_add_const]
  by_cases h : xs.length = 0
  · have : xs = [] := List.length_eq_zero_iff.mp h
    subst this
    simp; grind
  · have : (xs.length : Rat) ≠ 0 := by
      intro z
      have : xs.length = 0 := by exact_mod_cast z
      omega
    rw [Rat.div_def]
    grind
theorem level_length (xs : List Rat) : (level xs).length = xs.length := by simp [level]
theorem level_row {xs : List Rat} (h : ∀ x ∈ xs, Fz 60 (60 * 10 ^ 29) x) (hn : xs.length ≤ 20) : LRow (level xs) := by
  by_cases h0 : xs.length = 0
  · have : xs = [] := List.length_eq_zero_iff.mp h0
    subst this
    exact ⟨1, 0, by decide, by decide, by decide, by simp [level]⟩
  · have hs := Fz.sum h
    refine ⟨60 * xs.length, 2 ^ 120, by omega, by
      have : 60 * xs.length ≤ 60 * 20 := Nat.mul_le_mul_left _ hn
      exact Nat.le_trans this (by decide), Nat.le_refl _, fun y hy => ?_⟩
    unfold level at hy
    obtain ⟨x, hx, rfl⟩ := List.mem_map.mp hy
    rw [level_val]
    have hl : (xs.length : Rat) ≠ 0 := by
      intro z
      have : xs.length = 0 := by exact_mod_cast z
      omega
    have f1 : Fz (60 * xs.length) (60 * 10 ^ 29 * 20) x := by
      obtain ⟨m, e, l⟩ := h x hx
      refine ⟨m * xs.length, ?_, ?_⟩
      · rw [Rat.intCast_mul, ← e, Rat.natCast_mul, Rat.intCast_natCast]; grind
      · rw [Int.natAbs_mul]; exact Nat.mul_le_mul l (by simpa using hn)
    have f2 : Fz (60 * xs.length) (20 * (60 * 10 ^ 29)) (xs.sum / xs.length) := by
      obtain ⟨m, e, l⟩ := hs
      refine ⟨m, ?_, Nat.le_trans l (Nat.mul_le_mul_right _ hn)⟩
      rw [← e, Rat.natCast_mul, Rat.div_def]
      grind
    refine (f1.add f2.neg).mono ?_
    have : 60 * 10 ^ 29 * 20 + 20 * (60 * 10 ^ 29) ≤ 2 ^ 120 := by decide
    exact this
/-! ### the least weight -/
theorem int_ne {i : Int} (h : i ≠ 0) : (i : Rat) ≠ 0 := by
  intro z
  exact h (by exact_mod_cast z)
theorem divInt_le_of {a b c d : Int} (hb : 0 < b) (hd : 0 < d) (h : a * d ≤ c * b) : Rat.divInt a b ≤ Rat.divInt c d := by
  rw [Rat.le_iff_sub_nonneg]
  have h1 := int_ne (show b ≠ 0 by omega)
  have h2 := int_ne (show d ≠ 0 by omega)
  have e : Rat.divInt c d - Rat.divInt a b = Rat.divInt (c * b - a * d) (d * b) := by
    simp only [Rat.divInt_eq_div, Rat.intCast_sub, Rat.intCast_mul, Rat.div_def]
    grind
  rw [e]
  exact Rat.divInt_nonneg (by omega) (Int.mul_nonneg (by omega) (by omega))
theorem le_bq {S : Rat} {W : Int} {n k : Nat} (h : S.num * 2 ≤ W * k * ((n : Int) - k) * S.den) : S ≤ bq W n k := by
  unfold bq
  rw [← divInt_self S]
  exact divInt_le_of (by have := S.den_pos; omega) (by decide) h
theorem bq_mono {W V : Int} (h : W ≤ V) {n k : Nat} (hk : k ≤ n) : bq W n k ≤ bq V n k := by
  unfold bq
  refine divInt_le_of (by decide) (by decide) ?_
  refine Int.mul_le_mul_of_nonneg_right ?_ (by decide)
  refine Int.mul_le_mul_of_nonneg_right ?_ (by omega)
  exact Int.mul_le_mul_of_nonneg_right h (by omega)
theorem fits_of {W : Int} {row : List Rat} (h0 : row.sum = 0) (h : ∀ k, 1 ≤ k → k < row.length → top row k ≤ bq W row.length k) : Fits W row := by
  refine ⟨h0, fun k hk => ?_⟩
  by_cases h1 : k = 0
  · subst h1
    have e : bq W row.length 0 = 0 := by rw [bq_eq]; simp; grind
    rw [e]; unfold top; simp
  · by_cases h2 : k = row.length
    · subst h2
      have e : bq W row.length row.length = 0 := by rw [bq_eq]; grind
      rw [e, top_all, h0]; exact Rat.le_refl
    · exact h k (by omega) (by omega)
theorem weight_step {a b : Int} (hb : 0 < b) : a * 2 ≤ ((2 * a + b - 1) / b) * b := by
  have h1 := Int.emod_add_mul_ediv (2 * a + b - 1) b
  have h2 := Int.emod_lt_of_pos (2 * a + b - 1) hb
  have h3 : b * ((2 * a + b - 1) / b) = ((2 * a + b - 1) / b) * b := Int.mul_comm ..
  rw [h3] at h1
  omega
theorem weight_bound {a b : Int} {k : Nat} (hb : 0 < b) (ha : a.natAbs < 2 ^ k) : (2 * a + b - 1) / b < 2 * 2 ^ k + 1 := by
  have h := Int.ediv_mul_le (2 * a + b - 1) (show b ≠ 0 by omega)
  refine Int.ediv_lt_of_lt_mul hb ?_
  have h1 : a < 2 ^ k := by
    have : ((2 ^ k : Nat) : Int) = 2 ^ k := by simp
    omega
  have h2 : (2 : Int) * 2 ^ k * 1 ≤ 2 * 2 ^ k * b := Int.mul_le_mul_of_nonneg_left (by omega) (by
    have : (0 : Int) < 2 ^ k := Int.pow_pos (by decide)
    omega)
  rw [Int.add_mul, Int.one_mul]
  omega
theorem cut_to (l : List D) (k : Nat) : cutD l none (some (k : Int)) = l.take k := by
  unfold cutD
  have e1 : HT.sIx l.length 0 none = 0 := rfl
  have e2 : HT.sIx l.length l.length (some (k : Int)) = min k l.length := HT.sIx_nat ..
  rw [e1, e2]
  simp
end Q
namespace Q
open PySem PySem.Spec PyProof.Rows L2
def seat3 (z : List Nat × Bool × Rat) : List Nat × Rat := (if z.2.1 then [] else z.1, z.2.2)
theorem zipD3_eq : ∀ (ns : List (List Nat)) (gs : List Bool) (row : List Rat), zipD3 (txs ns) (gs.map D.bl) (row.map encQ) = (ns.zip (gs.zip row)).map fun z => D.tup [.str (tx z.1), .bl z.2.1, encQ z.2.2]
  | [], _, _ => by simp [txs, zipD3]
  | n :: ns, [], _ => by simp [txs, zipD3]
  | n :: ns, g :: gs, [] => by simp [txs, zipD3]
  | n :: ns, g :: gs, r :: row => by
    have := zipD3_eq ns gs row
    simp only [txs] at this
    simp [txs, zipD3, this]
theorem seats_row : ∀ {ns : List (List Nat)} {gs : List Bool} {row : List Rat}, gs.length = row.length → row.length ≤ ns.length → owL ((ns.zip (gs.zip row)).map seat3) = row
  | ns, [], [], _, _ => by simp [owL]
  | [], g :: gs, r :: row, _, h => by simp at h
  | n :: ns, g :: gs, r :: row, h1, h2 => by
    have := seats_row (ns := ns) (gs := gs) (row := row) (by simpa using h1) (by simpa using h2)
    simp only [owL] at this
    rw [List.map_map] at this
    simp [owL, seat3]
    exact this
theorem seats_names : ∀ (ns : List (List Nat)) (gs : List Bool) (row : List Rat), (nms ((ns.zip (gs.zip row)).map seat3)).Sublist ns
  | [], _, _ => by simp [nms]
  | n :: ns, [], _ => by simp [nms]
  | n :: ns, g :: gs, [] => by simp [nms]
  | n :: ns, g :: gs, r :: row => by
    have ih := seats_names ns gs row
    simp only [List.zip_cons_cons, List.map_cons, nms, List.filter_cons] at ih ⊢
    split
    · rename_i h
      cases g with
      | true => simp [seat3] at h
      | false => exact List.Sublist.cons_cons _ ih
    · exact ih.cons _
theorem seats_ok {ns : List (List Nat)} {gs : List Bool} {row : List Rat} (h : ∀ x ∈ ns, nmOk x) : ∀ s ∈ (ns.zip (gs.zip row)).map seat3, okNm s.1 ∧ s.2 ∈ row := fun s hs => by
  obtain ⟨z, hz, rfl⟩ := List.mem_map.mp hs
  obtain ⟨n, g, r⟩ := z
  have h1 := List.of_mem_zip hz
  have h2 := List.of_mem_zip h1.2
  refine ⟨?_, h2.2⟩
  simp only [seat3]
  split
  · exact (okNm_iff []).mpr (.inr rfl)
  · exact (h n h1.1).2
/-- what a drawn moment is like -/
structure LMom (W : Int) (seats : List (List Nat × Rat)) (u : Nat) : Prop where
  good : Good W seats
  row : LRow (owL seats)
  n : seats.length ≤ u
  w : W < 2 ^ 300
theorem LMom.tx {W : Int} {seats : List (List Nat × Rat)} {u : Nat} (h : LMom W seats u) (hu : u ≤ 20) : TxOk W seats := by
  refine ⟨?_, fun s hs => ⟨(h.row.one (List.mem_map.mpr ⟨s, hs, rfl⟩)).mono (by decide), Nat.le_trans (h.good.2.1 s hs).1 (by decide)⟩, Nat.le_trans h.n (by omega)⟩
  have h1 := h.good.1
  have h2 := h.w
  have h3 : W.natAbs < 2 ^ 300 := by
    have e : ((2 ^ 300 : Nat) : Int) = 2 ^ 300 := by simp
    have : ((W.natAbs : Nat) : Int) < ((2 ^ 300 : Nat) : Int) := by rw [e]; omega
    exact Int.ofNat_lt.mp this
  exact Nat.lt_of_lt_of_le h3 (Nat.pow_le_pow_right (by decide) (by decide))
theorem LMom.rok {W : Int} {seats : List (List Nat × Rat)} {u : Nat} (h : LMom W seats u) (hu : u ≤ 20) : Rok (owL seats) := h.row.rok (by have := h.n; simp [owL]; omega)
theorem Pl.ne {p q : Addr} {G G1 : GH} (h : Pl p G G1) (k : G1 q = none) : q ≠ p := fun z => by
  subst z
  obtain ⟨o, e⟩ := h.pot.some
  rw [k] at e; cases e
theorem Pot.ne {p q : Addr} {G : GH} (h : Pot G p) (k : G q = none) : q ≠ p := fun z => by
  subst z
  obtain ⟨o, e⟩ := h.some
  rw [k] at e; cases e
end Q
namespace Q
open PySem PySem.Spec PyProof.Rows L2
/-! ### repr of a moment -/
def dataQ (q : Rat) : PyData := .tuple [.int q.num, .int q.den]
def dataS (s : List Nat × Rat) : PyData := .tuple [.str (tx s.1), dataQ s.2]
def dataM (W : Int) (seats : List (List Nat × Rat)) : PyData := .tuple [.int W, .tuple (seats.map dataS)]
theorem seesQ {G : GH} (q : Rat) : Sees G (encQ q) (dataQ q) := .tup (.cons (.int _) (.cons (.int _) .nil))
theorem seesS {G : GH} (s : List Nat × Rat) : Sees G (encS s) (dataS s) := .tup (.cons (.str _) (.cons (seesQ _) .nil))
theorem seesAllS {G : GH} : ∀ seats : List (List Nat × Rat), SeesAll G (seats.map encS) (seats.map dataS)
  | [] => .nil
  | s :: r => .cons (seesS s) (seesAllS r)
theorem seesM {G : GH} (W : Int) (seats : List (List Nat × Rat)) : Sees G (encM W seats) (dataM W seats) := .tup (.cons (.int _) (.cons (.tup (seesAllS seats)) .nil))
theorem showS {s : List Nat × Rat} (h : SmK 1900 s.2) : (dataS s).showable = true := by
  have h1 : s.2.num.natAbs.log2 < 1920 := log_of h.1 (by decide) (by decide)
  have h2 : (s.2.den : Int).natAbs.log2 < 1920 := log_of (k := 1900) (by simpa using h.2) (by decide) (by decide)
  simp only [Int.natAbs_natCast] at h2
  simp [dataS, dataQ, PyData.showable, PyData.showableAll, h1, h2]
theorem showAllS : ∀ {seats : List (List Nat × Rat)}, (∀ s ∈ seats, SmK 1900 s.2) → PyData.showableAll (seats.map dataS) = true
  | [], _ => rfl
  | s :: r, h => by
    simp only [List.map_cons, PyData.showableAll, Bool.and_eq_true]
    exact ⟨showS (h s (by simp)), showAllS fun t ht => h t (by simp [ht])⟩
theorem noDictS : ∀ {seats : List (List Nat × Rat)}, PyData.hasDictAll (seats.map dataS) = false
  | [] => rfl
  | s :: r => by
    simp only [List.map_cons, PyData.hasDictAll, Bool.or_eq_false_iff]
    exact ⟨rfl, noDictS⟩
theorem depthS : ∀ {seats : List (List Nat × Rat)}, PyData.depthAll (seats.map dataS) ≤ 8
  | [] => by simp [PyData.depthAll]
  | s :: r => by
    have := depthS (seats := r)
    simp only [List.map_cons, PyData.depthAll, dataS, dataQ, PyData.depth]
    omega
theorem piled_le {c : Nat} : ∀ {ts : List Str}, (∀ t ∈ ts, t.length ≤ c) → piled ts ≤ ts.length * (c + 2)
  | [], _ => by simp [piled]
  | t :: r, h => by
    have := piled_le (ts := r) fun u hu => h u (by simp [hu])
    have h1 := h t (by simp)
    rw [piled_cons, List.length_cons, Nat.add_mul, Nat.one_mul]
    omega
theorem tupleText_le (ts : List Str) : (tupleText ts).length ≤ piled ts + 4 := by
  unfold tupleText
  rw [strLen_append, strLen_append]
  have h1 : ((Str.ofString "(") : Str).length = 1 := rfl
  have h2 : (Str.ofString (if ts.length == 1 then ",)" else ")")).length ≤ 2 := by split <;> decide
  rw [h1]
  by_cases h : ts = []
  · subst h
    have : (Str.join (Str.ofString ", ") []).length = 0 := rfl
    omega
  · have := join_length_add ts h
    omega
theorem shownInt {i : Int} {k : Nat} (hk : 0 < k) (h : i.natAbs < 2 ^ (3 * k)) : (PyData.int i).shown.length ≤ k + 1 := by
  show (Str.ofString (toString i)).length ≤ _
  rw [tx_int, tx_length]
  exact numZ_len hk h
theorem shownQ {q : Rat} (h : SmK 300 q) : (dataQ q).shown.length ≤ 300 := by
  have h1 := shownInt (k := 100) (by decide) h.1
  have h2 := shownInt (i := q.den) (k := 100) (by decide) (by simpa using h.2)
  have := tupleText_le [(PyData.int q.num).shown, (PyData.int q.den).shown]
  show (tupleText [(PyData.int q.num).shown, (PyData.int q.den).shown]).length ≤ _
  rw [piled_cons, piled_cons, piled_nil] at this
  omega
theorem shownS {s : List Nat × Rat} (h : SmK 300 s.2) (hn : okNm s.1) : (dataS s).shown.length ≤ 500 := by
  have h1 := shownQ h
  have h2 : (reprText (tx s.1)).length ≤ 10 * (tx s.1).length + 2 := StrLaws.reprText_len _ fun c hc => by
    have := hn.2 c (by simpa using hc)
    have e : (16 : Nat) ^ 8 = 4294967296 := by decide
    omega
  rw [tx_length s.1] at h2
  have := hn.1
  have h3 := tupleText_le [reprText (tx s.1), (dataQ s.2).shown]
  show (tupleText [reprText (tx s.1), (dataQ s.2).shown]).length ≤ _
  rw [piled_cons, piled_cons, piled_nil] at h3
  omega
theorem shownAll_len : ∀ (ds : List PyData), (PyData.shownAll ds).length = ds.length
  | [] => rfl
  | d :: r => by simp [PyData.shownAll, shownAll_len r]
theorem shownAll_le {c : Nat} : ∀ {ds : List PyData}, (∀ d ∈ ds, d.shown.length ≤ c) → ∀ t ∈ PyData.shownAll ds, t.length ≤ c
  | [], _, t, ht => by simp [PyData.shownAll] at ht
  | d :: r, h, t, ht => by
    simp only [PyData.shownAll, List.mem_cons] at ht
    rcases ht with rfl | ht
    · exact h d (by simp)
    · exact shownAll_le (fun e he => h e (by simp [he])) t ht
/-- a moment's repr may be reckoned -/
theorem reprM {W : Int} {seats : List (List Nat × Rat)} (ht : TxOk W seats) (hn : ∀ s ∈ seats, okNm s.1) {G : GH} {R : PyData → Prop} (q : R (dataM W seats)) :
    ∃ e, Sees G (encM W seats) e ∧ ((∃ es, e = .tuple es) ∨ ∃ es, e = .list es) ∧ e.showable = true ∧ e.hasDict = false ∧ e.depth < 32 ∧ e.shown.length ≤ sizeLine ∧ R e := by
  have hw : W.natAbs.log2 < 1920 := log_of ht.w (by decide) (by decide)
  refine ⟨dataM W seats, seesM W seats, .inl ⟨_, rfl⟩, ?_, ?_, ?_, ?_, q⟩
  · simp only [dataM, PyData.showable, PyData.showableAll, Bool.and_eq_true, decide_eq_true_eq]
    exact ⟨hw, showAllS fun s hs => (ht.s s hs).1.mono (by decide), trivial⟩
  · simp only [dataM, PyData.hasDict, PyData.hasDictAll, Bool.or_false, Bool.false_or]
    exact noDictS
  · have := depthS (seats := seats)
    simp only [dataM, PyData.depth, PyData.depthAll]
    omega
  · have h1 := shownInt (i := W) (k := 300) (by decide) ht.w
    have h2 := tupleText_le (PyData.shownAll (seats.map dataS))
    have h3 := piled_le (shownAll_le (c := 500) (ds := seats.map dataS) fun d hd => by
      obtain ⟨s, hs, rfl⟩ := List.mem_map.mp hd
      exact shownS (ht.s s hs).1 (hn s hs))
    rw [shownAll_len, List.length_map] at h3
    have h4 := tupleText_le [(PyData.int W).shown, tupleText (PyData.shownAll (seats.map dataS))]
    show (tupleText [(PyData.int W).shown, tupleText (PyData.shownAll (seats.map dataS))]).length ≤ _
    rw [piled_cons, piled_cons, piled_nil] at h4
    have := ht.n
    rw [sizeLine_eq]
    omega
end Q
namespace Q
open PySem PySem.Spec PyProof.Rows L2
theorem ixM0 {W : Int} {seats : List (List Nat × Rat)} {G : GH} {Q : QK} : ixD (encM W seats) (.int 0) G Q = Q (.int W) G := ixD_tup0
theorem ixM1 {W : Int} {seats : List (List Nat × Rat)} {G : GH} {Q : QK} : ixD (encM W seats) (.int 1) G Q = Q (.tup (seats.map encS)) G := ixD_tup1
theorem good_nil {W : Int} (h : 1 ≤ W) : Good W [] := ⟨h, by simp, by simp [nms], fits_of (by simp [owL]) fun k h1 h2 => absurd h2 (by simp [owL])⟩
end Q
set_option maxHeartbeats 4000000
namespace Q
open PySem PySem.Spec PyProof.Rows L2

def topS (i : Nat) : Stmt := PySem.Challenge.pw_whoserves_k91_texts_there_and_back.main.body.getD i (.Pass ⟨0, 0, 0, 0⟩)
/-- the facts of the module -/
structure Tx (K : PySem.W.Frag) (mg : Str → Option Value) : Prop where
  b : Blt mg
  g_NOUGHT : GC K mg "NOUGHT" (.tup [.int 0, .int 1])
  g_FIGURES : GC K mg "FIGURES" (.str "0123456789")
  g_STROKE : GC K mg "STROKE" (.str "/")
  g_LETTERS : GC K mg "LETTERS" (.str "abcdefghijklmnopqrstuvwxyz")
  g_MOST_LETTERS : GC K mg "MOST_LETTERS" (.int 8)
  g_EMPTY : GC K mg "EMPTY" (.str "")
  g_NOBODY : GC K mg "NOBODY" (.str "-")
  g_WEIGHT : GC K mg "WEIGHT" (.str "weight ")
  g_SEAT : GC K mg "SEAT" (.str "seat")
  x_ClubError : ExcC K mg "ClubError"
  x_NoWeight : ExcC K mg "NoWeight"
  x_NoText : ExcC K mg "NoText"

section
variable {P : Program} {w : World} {K : PySem.W.Frag} {mg : Str → Option Value} {base : Heap}
def sp_is_whole : DSp := sp1 fun a G Q _ => ∃ T, tyN a G = some T ∧ Q (.bl (isW a)) G
abbrev s_is_whole : Stmt := topS 8
abbrev N_is_whole : List Str := ["thing"]
theorem sc_is_whole : FnScope N_is_whole ["thing"] (defScope s_is_whole) := ⟨rfl, rfl, rfl, by decide +kernel, rfl, by decide +kernel, by decide +kernel⟩
theorem ok_is_whole (F : FunH K mg "is_whole" s_is_whole) (T : Tx K mg)  : Has P w K mg base 1 "is_whole" 1 [] sp_is_whole := by
  refine Has.ofF F sc_is_whole (fun _ _ _ _ _ _ us hl => match us, hl with | [_], _ => rfl) len1 fun f cdv A outer s H E ds G Q Ed B hp h => ⟨_, (s_one (s_ret (d_andV (d_callB c_isi T.b.isinstance boot_isinstance (a_cons (d_var 0) (a_cons (d_ty T.b.int boot_int) a_nil))) (d_one (d_notV (d_callB c_isi T.b.isinstance boot_isinstance (a_cons (d_var 0) (a_cons (d_ty T.b.bool boot_bool) a_nil)))))))), ?_⟩

  obtain ⟨a, rfl, T', hT, hQ⟩ := sp1_ex h
  simp only [dSeq, dNext, dRet, dRetN, dIfS, dDrop, dAsg, gdName, gdTup, gdNil, gdCons, dPar, dVar, dC, dOp, dCB, dCall, dCons, dNil, dTup, dLst, dB, dNot, dTru, dAnd, dOr, dAndV, dOrV, dNotV, dIf, dChain, dNeg, startD, List.map, List.length, List.replicate, List.append, List.cons_append, List.nil_append, List.append_nil, List.getElem?_cons_zero, List.getElem?_cons_succ, List.set_cons_zero, List.set_cons_succ, List.set_nil, Nat.sub_self, Nat.add_one_sub_one, Nat.reduceAdd, Nat.reduceSub, List.replicate_zero, List.replicate_succ, ixD_tup0, ixD_tup1, ixD_enc0, ixD_enc1, two_le_size, true_and, subD, modD, divD, powD, ltD, leD, gtD, geD, dLc, dFor, dYes, dRaise, dMt, dMt0, dSl, dPart, dNoPart, dFmt, dJoined, dJs, dOrT, forD, diSeq, diRng1, diRng2, diEnum, diZip2, diZip3, dWhile, dLenSet, bindP, bindPs, wipeD, dListRng, gdStar, gdSub, List.map_cons, List.map_nil, eqD_ii, eqD_ss, eqD_bb, neD_ii, neD_ss, neD_bb, truD_bl, truD_int, truD_non, truD_str, truD_tup, truD_rol, isB_bl, walkD_tup, walkD_rol, walkD_str, lenD_str, lenD_tupE, lenD_rolE, rdI_ii, addD_ii, addD_ss, addD_tt, mulD_ii, absD_i, maxD_ii, minD_ii, divmodD_ii, strD_i, intD_s, isND_nn, zero_le_size, List.length_cons, List.length_nil, isiD]
  refine ⟨by simp, T', hT, ?_⟩
  cases a <;> simp [tyN] at hT
  all_goals (try subst hT)
  case ref x => (split at hT <;> simp at hT <;> (try subst hT) <;> simpa [isN, isW] using fo0 hQ)
  case int i => simp [isN, isB]; exact ⟨_, rfl, by simpa [isW] using fo0 hQ⟩
  case bl i => simp [isN, isB]; exact ⟨_, rfl, by simpa [isW] using fo0 hQ⟩
  all_goals simpa [isN, isW, isB] using fo0 hQ

def sp_common : DSp := sp2 fun a b G Q _ => ∃ i j : Nat, a = .int i ∧ b = .int j ∧ Q (.int (Nat.gcd i j)) G
abbrev s_common : Stmt := topS 9
abbrev N_common : List Str := ["one", "other"]
theorem sc_common : FnScope N_common ["one", "other"] (defScope s_common) := ⟨rfl, rfl, rfl, by decide +kernel, rfl, by decide +kernel, by decide +kernel⟩
theorem ok_common (F : FunH K mg "common" s_common) (T : Tx K mg)  : Has P w K mg base 1 "common" 2 [] sp_common := by
  refine Has.ofF F sc_common (fun _ _ _ _ _ _ us hl => match us, hl with | [_, _], _ => rfl) len2 fun f cdv A outer s H E ds G Q Ed B hp h => ⟨_, (s_cons (s_while hp (d_tcmp o_gt (d_var 1) d_int) (s_one (s_par (i := 0) (j := 1) B.hc sc_common.nd (a_cons (d_var 1) (a_cons (d_op o_mod (d_var 0) (d_var 1)) a_nil)))))
 (s_one (s_ret (d_var 0)))), ?_⟩

  obtain ⟨a, b, rfl, i, j, rfl, rfl, hQ⟩ := sp2_ex h
  simp only [dSeq, dNext, dRet, dRetN, dIfS, dDrop, dAsg, gdName, gdTup, gdNil, gdCons, dPar, dVar, dC, dOp, dCB, dCall, dCons, dNil, dTup, dLst, dB, dNot, dTru, dAnd, dOr, dAndV, dOrV, dNotV, dIf, dChain, dNeg, startD, List.map, List.length, List.replicate, List.append, List.cons_append, List.nil_append, List.append_nil, List.getElem?_cons_zero, List.getElem?_cons_succ, List.set_cons_zero, List.set_cons_succ, List.set_nil, Nat.sub_self, Nat.add_one_sub_one, Nat.reduceAdd, Nat.reduceSub, List.replicate_zero, List.replicate_succ, ixD_tup0, ixD_tup1, ixD_enc0, ixD_enc1, two_le_size, true_and, subD, modD, divD, powD, ltD, leD, gtD, geD, dLc, dFor, dYes, dRaise, dMt, dMt0, dSl, dPart, dNoPart, dFmt, dJoined, dJs, dOrT, forD, diSeq, diRng1, diRng2, diEnum, diZip2, diZip3, dWhile, dLenSet, bindP, bindPs, wipeD, dListRng, gdStar, gdSub, List.map_cons, List.map_nil, eqD_ii, eqD_ss, eqD_bb, neD_ii, neD_ss, neD_bb, truD_bl, truD_int, truD_non, truD_str, truD_tup, truD_rol, isB_bl, walkD_tup, walkD_rol, walkD_str, lenD_str, lenD_tupE, lenD_rolE, rdI_ii, addD_ii, addD_ss, addD_tt, mulD_ii, absD_i, maxD_ii, minD_ii, divmodD_ii, strD_i, intD_s, isND_nn, zero_le_size, List.length_cons, List.length_nil]
  refine ⟨fun m δ G' => ∃ x y : Nat, δ = [some (.int x), some (.int y)] ∧ G' = G ∧ m = y ∧ Nat.gcd x y = Nat.gcd i j, ⟨j, i, j, rfl, rfl, rfl, rfl⟩, ?_⟩
  rintro y δ G' ⟨x, _, rfl, rfl, rfl, hg⟩
  simp only [dSeq, dNext, dRet, dRetN, dIfS, dDrop, dAsg, gdName, gdTup, gdNil, gdCons, dPar, dVar, dC, dOp, dCB, dCall, dCons, dNil, dTup, dLst, dB, dNot, dTru, dAnd, dOr, dAndV, dOrV, dNotV, dIf, dChain, dNeg, startD, List.map, List.length, List.replicate, List.append, List.cons_append, List.nil_append, List.append_nil, List.getElem?_cons_zero, List.getElem?_cons_succ, List.set_cons_zero, List.set_cons_succ, List.set_nil, Nat.sub_self, Nat.add_one_sub_one, Nat.reduceAdd, Nat.reduceSub, List.replicate_zero, List.replicate_succ, ixD_tup0, ixD_tup1, ixD_enc0, ixD_enc1, two_le_size, true_and, subD, modD, divD, powD, ltD, leD, gtD, geD, dLc, dFor, dYes, dRaise, dMt, dMt0, dSl, dPart, dNoPart, dFmt, dJoined, dJs, dOrT, forD, diSeq, diRng1, diRng2, diEnum, diZip2, diZip3, dWhile, dLenSet, bindP, bindPs, wipeD, dListRng, gdStar, gdSub, List.map_cons, List.map_nil, eqD_ii, eqD_ss, eqD_bb, neD_ii, neD_ss, neD_bb, truD_bl, truD_int, truD_non, truD_str, truD_tup, truD_rol, isB_bl, walkD_tup, walkD_rol, walkD_str, lenD_str, lenD_tupE, lenD_rolE, rdI_ii, addD_ii, addD_ss, addD_tt, mulD_ii, absD_i, maxD_ii, minD_ii, divmodD_ii, strD_i, intD_s, isND_nn, zero_le_size, List.length_cons, List.length_nil]
  by_cases hy : (0 : Int) < y
  · simp only [hy, decide_true, if_true, true_and]
    exact ⟨x % y, Nat.mod_lt _ (by omega), y, x % y, by simp, rfl, by rw [Nat.gcd_comm y, ← Nat.gcd_rec, Nat.gcd_comm]; exact hg⟩
  · have e : y = 0 := by omega
    subst e
    simp at hg
    simp
    rw [← hg] at hQ
    exact fo0 hQ

def sp_lowest : DSp := sp2 fun a b G Q _ => ∃ i j : Int, a = .int i ∧ b = .int j ∧ 0 < j ∧ j.natAbs < 2 ^ 8900 ∧ Q (encQ (Rat.divInt i j)) G
abbrev s_lowest : Stmt := topS 10
abbrev N_lowest : List Str := ["above", "below", "share"]
theorem sc_lowest : FnScope N_lowest ["above", "below"] (defScope s_lowest) := ⟨rfl, rfl, rfl, by decide +kernel, rfl, by decide +kernel, by decide +kernel⟩
theorem ok_lowest (F : FunH K mg "lowest" s_lowest) (T : Tx K mg) (h_common : Has P w K mg base 1 "common" 2 [] sp_common) : Has P w K mg base 2 "lowest" 2 [] sp_lowest := by
  refine Has.ofF F sc_lowest (fun _ _ _ _ _ _ us hl => match us, hl with | [_, _], _ => rfl) len2 fun f cdv A outer s H E ds G Q Ed B hp h => ⟨_, (s_cons (s_set 2 sc_lowest.nd (d_call h_common B (a_cons (d_callB c_abs T.b.abs boot_abs (a_cons (d_var 0) a_nil)) (a_cons (d_var 1) a_nil))))
 (s_one (s_ret (d_tup (a_cons (d_op o_div (d_var 0) (d_var 2)) (a_cons (d_op o_div (d_var 1) (d_var 2)) a_nil)))))), ?_⟩

  obtain ⟨a, b, rfl, i, j, rfl, rfl, hj, hz, hQ⟩ := sp2_ex h
  simp only [dSeq, dNext, dRet, dRetN, dIfS, dDrop, dAsg, gdName, gdTup, gdNil, gdCons, dPar, dVar, dC, dOp, dCB, dCall, dCons, dNil, dTup, dLst, dB, dNot, dTru, dAnd, dOr, dAndV, dOrV, dNotV, dIf, dChain, dNeg, startD, List.map, List.length, List.replicate, List.append, List.cons_append, List.nil_append, List.append_nil, List.getElem?_cons_zero, List.getElem?_cons_succ, List.set_cons_zero, List.set_cons_succ, List.set_nil, Nat.sub_self, Nat.add_one_sub_one, Nat.reduceAdd, Nat.reduceSub, List.replicate_zero, List.replicate_succ, ixD_tup0, ixD_tup1, ixD_enc0, ixD_enc1, two_le_size, true_and, subD, modD, divD, powD, ltD, leD, gtD, geD, dLc, dFor, dYes, dRaise, dMt, dMt0, dSl, dPart, dNoPart, dFmt, dJoined, dJs, dOrT, forD, diSeq, diRng1, diRng2, diEnum, diZip2, diZip3, dWhile, dLenSet, bindP, bindPs, wipeD, dListRng, gdStar, gdSub, List.map_cons, List.map_nil, eqD_ii, eqD_ss, eqD_bb, neD_ii, neD_ss, neD_bb, truD_bl, truD_int, truD_non, truD_str, truD_tup, truD_rol, isB_bl, walkD_tup, walkD_rol, walkD_str, lenD_str, lenD_tupE, lenD_rolE, rdI_ii, addD_ii, addD_ss, addD_tt, mulD_ii, absD_i, maxD_ii, minD_ii, divmodD_ii, strD_i, intD_s, isND_nn, zero_le_size, List.length_cons, List.length_nil, sp_common, sp2]
  have hg : (0 : Int) < Int.gcd i j := by
    have : 0 < Int.gcd i j := Int.gcd_pos_of_ne_zero_right _ (by omega)
    omega
  have hgz : (Int.gcd i j : Int).natAbs < 2 ^ 8900 := by
    have : Int.gcd i j ≤ j.natAbs := Nat.le_of_dvd (by omega) (Nat.gcd_dvd_right ..)
    simp
    omega
  refine ⟨i.natAbs, j.natAbs, by congr 1; split <;> omega, by congr 1; omega, ?_⟩
  have e : (Nat.gcd i.natAbs j.natAbs : Int) = Int.gcd i j := rfl
  rw [e]
  refine ⟨divOk_of hg hgz, divOk_of hg hgz, ?_⟩
  rw [lowest_num hj, lowest_den hj]
  exact fo0 hQ

def sp_plus : DSp := sp2 fun a b G Q _ => ∃ p q : Rat, a = encQ p ∧ b = encQ q ∧ Sm p ∧ Sm q ∧ Q (encQ (p + q)) G
abbrev s_plus : Stmt := topS 12
abbrev N_plus : List Str := ["one", "other"]
theorem sc_plus : FnScope N_plus ["one", "other"] (defScope s_plus) := ⟨rfl, rfl, rfl, by decide +kernel, rfl, by decide +kernel, by decide +kernel⟩
theorem ok_plus (F : FunH K mg "plus" s_plus) (T : Tx K mg) (h_lowest : Has P w K mg base 2 "lowest" 2 [] sp_lowest) : Has P w K mg base 3 "plus" 2 [] sp_plus := by
  refine Has.ofF F sc_plus (fun _ _ _ _ _ _ us hl => match us, hl with | [_, _], _ => rfl) len2 fun f cdv A outer s H E ds G Q Ed B hp h => ⟨_, (s_one (s_ret (d_call h_lowest B (a_cons (d_op o_add (d_op o_mul (d_ix (d_var 0) d_int) (d_ix (d_var 1) d_int)) (d_op o_mul (d_ix (d_var 1) d_int) (d_ix (d_var 0) d_int))) (a_cons (d_op o_mul (d_ix (d_var 0) d_int) (d_ix (d_var 1) d_int)) a_nil))))), ?_⟩

  obtain ⟨a, b, rfl, p, q, rfl, rfl, hp, hq, hQ⟩ := sp2_ex h
  simp only [dSeq, dNext, dRet, dRetN, dIfS, dDrop, dAsg, gdName, gdTup, gdNil, gdCons, dPar, dVar, dC, dOp, dCB, dCall, dCons, dNil, dTup, dLst, dB, dNot, dTru, dAnd, dOr, dAndV, dOrV, dNotV, dIf, dChain, dNeg, startD, List.map, List.length, List.replicate, List.append, List.cons_append, List.nil_append, List.append_nil, List.getElem?_cons_zero, List.getElem?_cons_succ, List.set_cons_zero, List.set_cons_succ, List.set_nil, Nat.sub_self, Nat.add_one_sub_one, Nat.reduceAdd, Nat.reduceSub, List.replicate_zero, List.replicate_succ, ixD_tup0, ixD_tup1, ixD_enc0, ixD_enc1, two_le_size, true_and, subD, modD, divD, powD, ltD, leD, gtD, geD, dLc, dFor, dYes, dRaise, dMt, dMt0, dSl, dPart, dNoPart, dFmt, dJoined, dJs, dOrT, forD, diSeq, diRng1, diRng2, diEnum, diZip2, diZip3, dWhile, dLenSet, bindP, bindPs, wipeD, dListRng, gdStar, gdSub, List.map_cons, List.map_nil, eqD_ii, eqD_ss, eqD_bb, neD_ii, neD_ss, neD_bb, truD_bl, truD_int, truD_non, truD_str, truD_tup, truD_rol, isB_bl, walkD_tup, walkD_rol, walkD_str, lenD_str, lenD_tupE, lenD_rolE, rdI_ii, addD_ii, addD_ss, addD_tt, mulD_ii, absD_i, maxD_ii, minD_ii, divmodD_ii, strD_i, intD_s, isND_nn, zero_le_size, List.length_cons, List.length_nil, sp_lowest, sp2, encQ]
  have h1 := hp.2
  have h2 := hq.2
  refine ⟨mulOk_of hp.1 (b := 4000) (by simpa using hq.2), mulOk_of hq.1 (b := 4000) (by simpa using hp.2), mulOk_of (a := 4000) (b := 4000) (by simpa using hp.2) (by simpa using hq.2), _, _, rfl, rfl, Int.mul_pos hp.den_pos hq.den_pos, ?_, ?_⟩
  · exact Nat.lt_of_lt_of_le (natAbs_mul_lt (a := 4000) (b := 4000) (by simpa using hp.2) (by simpa using hq.2)) (Nat.pow_le_pow_right (by decide) (by decide))
  · rw [plus_eq]; exact fo0 hQ

def sp_is_less : DSp := sp2 fun a b G Q _ => ∃ p q : Rat, a = encQ p ∧ b = encQ q ∧ Sm p ∧ Sm q ∧ Q (.bl (decide (p < q))) G
abbrev s_is_less : Stmt := topS 13
abbrev N_is_less : List Str := ["one", "other"]
theorem sc_is_less : FnScope N_is_less ["one", "other"] (defScope s_is_less) := ⟨rfl, rfl, rfl, by decide +kernel, rfl, by decide +kernel, by decide +kernel⟩
theorem ok_is_less (F : FunH K mg "is_less" s_is_less) (T : Tx K mg)  : Has P w K mg base 1 "is_less" 2 [] sp_is_less := by
  refine Has.ofF F sc_is_less (fun _ _ _ _ _ _ us hl => match us, hl with | [_, _], _ => rfl) len2 fun f cdv A outer s H E ds G Q Ed B hp h => ⟨_, (s_one (s_ret (d_cmp o_lt (d_op o_mul (d_ix (d_var 0) d_int) (d_ix (d_var 1) d_int)) (d_op o_mul (d_ix (d_var 1) d_int) (d_ix (d_var 0) d_int))))), ?_⟩

  obtain ⟨a, b, rfl, p, q, rfl, rfl, hp, hq, hQ⟩ := sp2_ex h
  simp only [dSeq, dNext, dRet, dRetN, dIfS, dDrop, dAsg, gdName, gdTup, gdNil, gdCons, dPar, dVar, dC, dOp, dCB, dCall, dCons, dNil, dTup, dLst, dB, dNot, dTru, dAnd, dOr, dAndV, dOrV, dNotV, dIf, dChain, dNeg, startD, List.map, List.length, List.replicate, List.append, List.cons_append, List.nil_append, List.append_nil, List.getElem?_cons_zero, List.getElem?_cons_succ, List.set_cons_zero, List.set_cons_succ, List.set_nil, Nat.sub_self, Nat.add_one_sub_one, Nat.reduceAdd, Nat.reduceSub, List.replicate_zero, List.replicate_succ, ixD_tup0, ixD_tup1, ixD_enc0, ixD_enc1, two_le_size, true_and, subD, modD, divD, powD, ltD, leD, gtD, geD, dLc, dFor, dYes, dRaise, dMt, dMt0, dSl, dPart, dNoPart, dFmt, dJoined, dJs, dOrT, forD, diSeq, diRng1, diRng2, diEnum, diZip2, diZip3, dWhile, dLenSet, bindP, bindPs, wipeD, dListRng, gdStar, gdSub, List.map_cons, List.map_nil, eqD_ii, eqD_ss, eqD_bb, neD_ii, neD_ss, neD_bb, truD_bl, truD_int, truD_non, truD_str, truD_tup, truD_rol, isB_bl, walkD_tup, walkD_rol, walkD_str, lenD_str, lenD_tupE, lenD_rolE, rdI_ii, addD_ii, addD_ss, addD_tt, mulD_ii, absD_i, maxD_ii, minD_ii, divmodD_ii, strD_i, intD_s, isND_nn, zero_le_size, List.length_cons, List.length_nil, encQ]
  refine ⟨mulOk_of hp.1 (b := 4000) (by simpa using hq.2), mulOk_of hq.1 (b := 4000) (by simpa using hp.2), ?_⟩
  rw [less_eq]; exact fo0 hQ

end
end Q
set_option maxHeartbeats 4000000
namespace Q
open PySem PySem.Spec PyProof.Rows L2

section
variable {P : Program} {w : World} {K : PySem.W.Frag} {mg : Str → Option Value} {base : Heap}
def sp_greatest_first : DSp := sp1 fun a G Q _ => ∃ row : List Rat, SeqG G a (row.map encQ) ∧ Rok row ∧ row.length < 2 ^ 20 ∧ ∀ p, G p = none → Q (.ref p) (gupd G p (.lst ((gf row).map fun k : Nat => .int k)))
abbrev s_greatest_first : Stmt := topS 18
abbrev N_greatest_first : List Str := ["row", "found", "place", "one", "at", "k"]
theorem sc_greatest_first : FnScope N_greatest_first ["row"] (defScope s_greatest_first) := ⟨rfl, rfl, rfl, by decide +kernel, rfl, by decide +kernel, by decide +kernel⟩
theorem ok_greatest_first (F : FunH K mg "greatest_first" s_greatest_first) (T : Tx K mg) (h_is_less : Has P w K mg base 1 "is_less" 2 [] sp_is_less) : Has P w K mg base 2 "greatest_first" 1 [] sp_greatest_first := by
  refine Has.ofF F sc_greatest_first (fun _ _ _ _ _ _ us hl => match us, hl with | [_], _ => rfl) len1 fun f cdv A outer s H E ds G Q Ed B hp h => ⟨_, (s_cons (s_set 1 sc_greatest_first.nd (d_lst a_nil))
 (s_cons (s_for hp B.hc (i_enum T.b.enumerate (a_cons (d_var 0) a_nil)) (g_tup (n := 2) B.hc (gs_cons (g_name (i := 2) sc_greatest_first.nd) (gs_cons (g_name (i := 3) sc_greatest_first.nd) gs_nil))) (s_cons (s_set 4 sc_greatest_first.nd (d_callB c_len T.b.len boot_len (a_cons (d_lc (own := [("k", 5)]) (p := .nm 5) B.hc sc_greatest_first.nd (blkOk_by (own := [("k", 5)]) (N := N_greatest_first) (by kernel_rfl)) (by decide) (i_seq (d_var 1)) (fun s1 H1 C1 cl1 fp1 => (p_name (i := 5) sc_greatest_first.nd)) (fun s1 H1 C1 cl1 fp1 => (ts_one (d_tnot (d_ttru (d_call h_is_less (B.blk s1 H1 _ _ fp1) (a_cons (d_ix (d_var 0) (d_var 5)) (a_cons (d_var 3) a_nil))))))) (fun s1 H1 C1 cl1 fp1 => (d_var 5))) a_nil)))
 (s_one (s_expr (d_mt m_insert PySem.F.plainAttrs_list PySem.F.slot_list_insert PySem.F.type_list_insert (d_var 1) (a_cons (d_var 4) (a_cons (d_var 2) a_nil)))))))
 (s_one (s_ret (d_var 1))))), ?_⟩

  obtain ⟨a, rfl, row, ha, hr, hz, hQ⟩ := sp1_ex h
  simp only [dSeq, dNext, dRet, dRetN, dIfS, dDrop, dAsg, gdName, gdTup, gdNil, gdCons, dPar, dVar, dC, dOp, dCB, dCall, dCons, dNil, dTup, dLst, dB, dNot, dTru, dAnd, dOr, dAndV, dOrV, dNotV, dIf, dChain, dNeg, startD, List.map, List.length, List.replicate, List.append, List.cons_append, List.nil_append, List.append_nil, List.getElem?_cons_zero, List.getElem?_cons_succ, List.set_cons_zero, List.set_cons_succ, List.set_nil, Nat.sub_self, Nat.add_one_sub_one, Nat.reduceAdd, Nat.reduceSub, List.replicate_zero, List.replicate_succ, ixD_tup0, ixD_tup1, ixD_enc0, ixD_enc1, two_le_size, true_and, subD, modD, divD, powD, ltD, leD, gtD, geD, dLc, dFor, dYes, dRaise, dMt, dMt0, dSl, dPart, dNoPart, dFmt, dJoined, dJs, dOrT, forD, diSeq, diRng1, diRng2, diEnum, diZip2, diZip3, dWhile, dLenSet, bindP, bindPs, wipeD, dListRng, gdStar, gdSub, List.map_cons, List.map_nil, eqD_ii, eqD_ss, eqD_bb, neD_ii, neD_ss, neD_bb, truD_bl, truD_int, truD_non, truD_str, truD_tup, truD_rol, isB_bl, walkD_tup, walkD_rol, walkD_str, lenD_str, lenD_tupE, lenD_rolE, rdI_ii, addD_ii, addD_ss, addD_tt, mulD_ii, absD_i, maxD_ii, minD_ii, divmodD_ii, strD_i, intD_s, isND_nn, zero_le_size, List.length_cons, List.length_nil, zero_le_size]
  intro p hp
  have L0 : Less G (gupd G p (.lst [])) := .new (.refl G) hp
  refine ⟨_, ha.less L0, forD_inv (fun i δ G' => Less (gupd G p (.lst ((gfK row i).map fun k : Nat => .int k))) G' ∧ ∃ x2 x3 x4 x5, δ = [some a, some (.ref p), x2, x3, x4, x5]) ⟨.refl _, _, _, _, _, rfl⟩ ?_ ?_⟩
  · rintro i d δ G' N hd ⟨L, x2, x3, x4, x5, rfl⟩ hN
    obtain ⟨x, hx, rfl⟩ := enumD_at hd
    obtain ⟨q, hq, rfl⟩ := map_at hx
    have L1 : Less G G' := (Less.put (.refl G) hp).trans L
    have hi : i < row.length := (List.getElem?_eq_some_iff.mp hq).1
    have eq : q = rv row i := by simp [rv, hq]
    refine ⟨chk_less ha L1, ?_⟩
    simp only [dSeq, dNext, dRet, dRetN, dIfS, dDrop, dAsg, gdName, gdTup, gdNil, gdCons, dPar, dVar, dC, dOp, dCB, dCall, dCons, dNil, dTup, dLst, dB, dNot, dTru, dAnd, dOr, dAndV, dOrV, dNotV, dIf, dChain, dNeg, startD, List.map, List.length, List.replicate, List.append, List.cons_append, List.nil_append, List.append_nil, List.getElem?_cons_zero, List.getElem?_cons_succ, List.set_cons_zero, List.set_cons_succ, List.set_nil, Nat.sub_self, Nat.add_one_sub_one, Nat.reduceAdd, Nat.reduceSub, List.replicate_zero, List.replicate_succ, ixD_tup0, ixD_tup1, ixD_enc0, ixD_enc1, two_le_size, true_and, subD, modD, divD, powD, ltD, leD, gtD, geD, dLc, dFor, dYes, dRaise, dMt, dMt0, dSl, dPart, dNoPart, dFmt, dJoined, dJs, dOrT, forD, diSeq, diRng1, diRng2, diEnum, diZip2, diZip3, dWhile, dLenSet, bindP, bindPs, wipeD, dListRng, gdStar, gdSub, List.map_cons, List.map_nil, eqD_ii, eqD_ss, eqD_bb, neD_ii, neD_ss, neD_bb, truD_bl, truD_int, truD_non, truD_str, truD_tup, truD_rol, isB_bl, walkD_tup, walkD_rol, walkD_str, lenD_str, lenD_tupE, lenD_rolE, rdI_ii, addD_ii, addD_ss, addD_tt, mulD_ii, absD_i, maxD_ii, minD_ii, divmodD_ii, strD_i, intD_s, isND_nn, zero_le_size, List.length_cons, List.length_nil]
    refine ⟨_, L.at, fun l hl => ?_⟩
    have hlp : p ≠ l := ne_g L.at hl
    refine lcD_of (fun d => match d with | .int k => if rv row k.toNat < rv row i then none else some d | _ => none) hl ?_ (fun acc G2 L2 => ?_) (fun d hd => ?_) (fun G2 L2 => ?_)
    · simp [gfK_length]; rw [sizeLine_eq]; omega
    · exact L2 _ _ (by rw [gupd_ne hlp]; exact L.at)
    · obtain ⟨k, hk, rfl⟩ := List.mem_map.mp hd
      have hk : k < row.length := by
        have := (gfK_perm row i).mem_iff.mp hk
        have : k < i := by simpa using this
        omega
      refine ⟨_, rfl, fun acc G2 N M L2 h1 h2 => ?_⟩
      have L3 : Less G G2 := (L1.trans (.new (.refl _) hl)).trans L2
      simp only [dSeq, dNext, dRet, dRetN, dIfS, dDrop, dAsg, gdName, gdTup, gdNil, gdCons, dPar, dVar, dC, dOp, dCB, dCall, dCons, dNil, dTup, dLst, dB, dNot, dTru, dAnd, dOr, dAndV, dOrV, dNotV, dIf, dChain, dNeg, startD, List.map, List.length, List.replicate, List.append, List.cons_append, List.nil_append, List.append_nil, List.getElem?_cons_zero, List.getElem?_cons_succ, List.set_cons_zero, List.set_cons_succ, List.set_nil, Nat.sub_self, Nat.add_one_sub_one, Nat.reduceAdd, Nat.reduceSub, List.replicate_zero, List.replicate_succ, ixD_tup0, ixD_tup1, ixD_enc0, ixD_enc1, two_le_size, true_and, subD, modD, divD, powD, ltD, leD, gtD, geD, dLc, dFor, dYes, dRaise, dMt, dMt0, dSl, dPart, dNoPart, dFmt, dJoined, dJs, dOrT, forD, diSeq, diRng1, diRng2, diEnum, diZip2, diZip3, dWhile, dLenSet, bindP, bindPs, wipeD, dListRng, gdStar, gdSub, List.map_cons, List.map_nil, eqD_ii, eqD_ss, eqD_bb, neD_ii, neD_ss, neD_bb, truD_bl, truD_int, truD_non, truD_str, truD_tup, truD_rol, isB_bl, walkD_tup, walkD_rol, walkD_str, lenD_str, lenD_tupE, lenD_rolE, rdI_ii, addD_ii, addD_ss, addD_tt, mulD_ii, absD_i, maxD_ii, minD_ii, divmodD_ii, strD_i, intD_s, isND_nn, zero_le_size, List.length_cons, List.length_nil, sp_is_less, sp2]
      refine ixD_seq (ha.less L3) (d := encQ (rv row k)) (by simp [rv, hk]) ?_
      refine ⟨_, _, rfl, rfl, (hr.rv k).mono (by decide), by rw [eq]; exact (hr.rv i).mono (by decide), ?_⟩
      rw [eq]
      by_cases hc : rv row k < rv row i
      · simp [hc]
        exact h2 G2 (by simp [hc]) L2
      · simp [hc]
        exact h1 _ G2 (by simp [hc]) L2
    · have ef : ((gfK row i).map fun k : Nat => D.int k).filterMap (fun d => match d with | .int k => if rv row k.toNat < rv row i then none else some d | _ => none) = ((gfK row i).filter fun k => !decide (rv row k < rv row i)).map fun k : Nat => D.int k := by
        induction gfK row i with
        | nil => rfl
        | cons k r ih => by_cases hc : rv row k < rv row i <;> simp [hc, ih]
      rw [ef] at L2
      have hGp : G2 p = some (.lst ((gfK row i).map fun k : Nat => .int k)) := L2 _ _ (by rw [gupd_ne hlp]; exact L.at)
      simp only [dSeq, dNext, dRet, dRetN, dIfS, dDrop, dAsg, gdName, gdTup, gdNil, gdCons, dPar, dVar, dC, dOp, dCB, dCall, dCons, dNil, dTup, dLst, dB, dNot, dTru, dAnd, dOr, dAndV, dOrV, dNotV, dIf, dChain, dNeg, startD, List.map, List.length, List.replicate, List.append, List.cons_append, List.nil_append, List.append_nil, List.getElem?_cons_zero, List.getElem?_cons_succ, List.set_cons_zero, List.set_cons_succ, List.set_nil, Nat.sub_self, Nat.add_one_sub_one, Nat.reduceAdd, Nat.reduceSub, List.replicate_zero, List.replicate_succ, ixD_tup0, ixD_tup1, ixD_enc0, ixD_enc1, two_le_size, true_and, subD, modD, divD, powD, ltD, leD, gtD, geD, dLc, dFor, dYes, dRaise, dMt, dMt0, dSl, dPart, dNoPart, dFmt, dJoined, dJs, dOrT, forD, diSeq, diRng1, diRng2, diEnum, diZip2, diZip3, dWhile, dLenSet, bindP, bindPs, wipeD, dListRng, gdStar, gdSub, List.map_cons, List.map_nil, eqD_ii, eqD_ss, eqD_bb, neD_ii, neD_ss, neD_bb, truD_bl, truD_int, truD_non, truD_str, truD_tup, truD_rol, isB_bl, walkD_tup, walkD_rol, walkD_str, lenD_str, lenD_tupE, lenD_rolE, rdI_ii, addD_ii, addD_ss, addD_tt, mulD_ii, absD_i, maxD_ii, minD_ii, divmodD_ii, strD_i, intD_s, isND_nn, zero_le_size, List.length_cons, List.length_nil, lenD, insertD]
      refine ⟨_, L2.at, tyD_lst hGp, _, hGp, ?_, ⟨by omega, ?_⟩, ?_⟩
      · simp [gfK_length]; rw [sizeLine_eq]; omega
      · have := List.length_filter_le (fun k => !decide (rv row k < rv row i)) (gfK row i)
        rw [gfK_length] at this
        simp; omega
      · refine hN _ _ ⟨?_, _, _, _, _, rfl⟩
        have L4 := ((L1.new hl).trans L2).upd (p := p) (o := .lst ((gfK row (i + 1)).map fun k : Nat => .int k))
        simpa [gfK, gins, List.map_take, List.map_drop] using L4
  · rintro δ G' ⟨L, x2, x3, x4, x5, rfl⟩
    have L1 : Less G G' := (Less.put (.refl G) hp).trans L
    refine ⟨chk_less ha L1, ?_⟩
    simp only [dSeq, dNext, dRet, dRetN, dIfS, dDrop, dAsg, gdName, gdTup, gdNil, gdCons, dPar, dVar, dC, dOp, dCB, dCall, dCons, dNil, dTup, dLst, dB, dNot, dTru, dAnd, dOr, dAndV, dOrV, dNotV, dIf, dChain, dNeg, startD, List.map, List.length, List.replicate, List.append, List.cons_append, List.nil_append, List.append_nil, List.getElem?_cons_zero, List.getElem?_cons_succ, List.set_cons_zero, List.set_cons_succ, List.set_nil, Nat.sub_self, Nat.add_one_sub_one, Nat.reduceAdd, Nat.reduceSub, List.replicate_zero, List.replicate_succ, ixD_tup0, ixD_tup1, ixD_enc0, ixD_enc1, two_le_size, true_and, subD, modD, divD, powD, ltD, leD, gtD, geD, dLc, dFor, dYes, dRaise, dMt, dMt0, dSl, dPart, dNoPart, dFmt, dJoined, dJs, dOrT, forD, diSeq, diRng1, diRng2, diEnum, diZip2, diZip3, dWhile, dLenSet, bindP, bindPs, wipeD, dListRng, gdStar, gdSub, List.map_cons, List.map_nil, eqD_ii, eqD_ss, eqD_bb, neD_ii, neD_ss, neD_bb, truD_bl, truD_int, truD_non, truD_str, truD_tup, truD_rol, isB_bl, walkD_tup, walkD_rol, walkD_str, lenD_str, lenD_tupE, lenD_rolE, rdI_ii, addD_ii, addD_ss, addD_tt, mulD_ii, absD_i, maxD_ii, minD_ii, divmodD_ii, strD_i, intD_s, isND_nn, zero_le_size, List.length_cons, List.length_nil]
    exact Fo.mk L (by simpa [gf, enumD_length] using hQ p hp)

def sp_sums_ahead : DSp := sp1 fun a G Q _ => ∃ row : List Rat, SeqG G a (row.map encQ) ∧ Rok row ∧ row.length < 2 ^ 20 ∧ ∀ p, G p = none → Q (.ref p) (gupd G p (.lst ((psums 0 (desc row)).map encQ)))
abbrev s_sums_ahead : Stmt := topS 19
abbrev N_sums_ahead : List Str := ["row", "found", "place"]
theorem sc_sums_ahead : FnScope N_sums_ahead ["row"] (defScope s_sums_ahead) := ⟨rfl, rfl, rfl, by decide +kernel, rfl, by decide +kernel, by decide +kernel⟩
theorem ok_sums_ahead (F : FunH K mg "sums_ahead" s_sums_ahead) (T : Tx K mg) (h_plus : Has P w K mg base 3 "plus" 2 [] sp_plus) (h_greatest_first : Has P w K mg base 2 "greatest_first" 1 [] sp_greatest_first) : Has P w K mg base 4 "sums_ahead" 1 [] sp_sums_ahead := by
  refine Has.ofF F sc_sums_ahead (fun _ _ _ _ _ _ us hl => match us, hl with | [_], _ => rfl) len1 fun f cdv A outer s H E ds G Q Ed B hp h => ⟨_, (s_cons (s_set 1 sc_sums_ahead.nd (d_lst (a_cons (d_gc T.g_NOUGHT) a_nil)))
 (s_cons (s_for hp B.hc (i_seq (d_call h_greatest_first B (a_cons (d_var 0) a_nil))) (g_name (i := 2) sc_sums_ahead.nd) (s_one (s_expr (d_mt m_append PySem.F.plainAttrs_list PySem.F.slot_list_append PySem.F.type_list_append (d_var 1) (a_cons (d_call h_plus B (a_cons (d_ix (d_var 1) (d_neg d_int)) (a_cons (d_ix (d_var 0) (d_var 2)) a_nil))) a_nil)))))
 (s_one (s_ret (d_var 1))))), ?_⟩

  obtain ⟨a, rfl, row, ha, hr, hz, hQ⟩ := sp1_ex h
  simp only [dSeq, dNext, dRet, dRetN, dIfS, dDrop, dAsg, gdName, gdTup, gdNil, gdCons, dPar, dVar, dC, dOp, dCB, dCall, dCons, dNil, dTup, dLst, dB, dNot, dTru, dAnd, dOr, dAndV, dOrV, dNotV, dIf, dChain, dNeg, startD, List.map, List.length, List.replicate, List.append, List.cons_append, List.nil_append, List.append_nil, List.getElem?_cons_zero, List.getElem?_cons_succ, List.set_cons_zero, List.set_cons_succ, List.set_nil, Nat.sub_self, Nat.add_one_sub_one, Nat.reduceAdd, Nat.reduceSub, List.replicate_zero, List.replicate_succ, ixD_tup0, ixD_tup1, ixD_enc0, ixD_enc1, two_le_size, true_and, subD, modD, divD, powD, ltD, leD, gtD, geD, dLc, dFor, dYes, dRaise, dMt, dMt0, dSl, dPart, dNoPart, dFmt, dJoined, dJs, dOrT, forD, diSeq, diRng1, diRng2, diEnum, diZip2, diZip3, dWhile, dLenSet, bindP, bindPs, wipeD, dListRng, gdStar, gdSub, List.map_cons, List.map_nil, eqD_ii, eqD_ss, eqD_bb, neD_ii, neD_ss, neD_bb, truD_bl, truD_int, truD_non, truD_str, truD_tup, truD_rol, isB_bl, walkD_tup, walkD_rol, walkD_str, lenD_str, lenD_tupE, lenD_rolE, rdI_ii, addD_ii, addD_ss, addD_tt, mulD_ii, absD_i, maxD_ii, minD_ii, divmodD_ii, strD_i, intD_s, isND_nn, zero_le_size, List.length_cons, List.length_nil, sp_greatest_first, sp1]
  refine ⟨by rw [sizeLine_eq]; decide, fun p hp => ?_⟩
  have L0 : Less G (gupd G p (.lst [.tup [.int 0, .int 1]])) := .new (.refl G) hp
  refine ⟨row, ha.less L0, hr, hz, fun q hq => ?_⟩
  obtain ⟨hqp, hq0⟩ := gupd_none hq
  refine ⟨_, gupd_same, forD_inv (fun i δ G' => Less (gupd (gupd G q (.lst ((gf row).map fun k : Nat => .int k))) p (.lst ((psums 0 ((desc row).take i)).map encQ))) G' ∧ ∃ x2, δ = [some a, some (.ref p), x2]) ⟨?_, _, rfl⟩ ?_ ?_⟩
  · rw [gupd_comm hqp]; exact .refl _
  · rintro i d δ G' N hd ⟨L, x2, rfl⟩ hN
    obtain ⟨k, hk, rfl⟩ := map_at hd
    have L1 : Less G G' := ((Less.new (.refl G) hq0).put hp).trans L
    have hki : k < row.length := gf_lt (List.mem_of_getElem? hk)
    have hq' : G' q = some (.lst ((gf row).map fun k : Nat => .int k)) := L _ _ (by rw [gupd_ne hqp]; exact gupd_same)
    obtain ⟨pre, hpre⟩ := psums_last 0 ((desc row).take i)
    have hp' : G' p = some (.lst ((psums 0 ((desc row).take i)).map encQ)) := L.at
    refine ⟨hq', ?_⟩
    simp only [dSeq, dNext, dRet, dRetN, dIfS, dDrop, dAsg, gdName, gdTup, gdNil, gdCons, dPar, dVar, dC, dOp, dCB, dCall, dCons, dNil, dTup, dLst, dB, dNot, dTru, dAnd, dOr, dAndV, dOrV, dNotV, dIf, dChain, dNeg, startD, List.map, List.length, List.replicate, List.append, List.cons_append, List.nil_append, List.append_nil, List.getElem?_cons_zero, List.getElem?_cons_succ, List.set_cons_zero, List.set_cons_succ, List.set_nil, Nat.sub_self, Nat.add_one_sub_one, Nat.reduceAdd, Nat.reduceSub, List.replicate_zero, List.replicate_succ, ixD_tup0, ixD_tup1, ixD_enc0, ixD_enc1, two_le_size, true_and, subD, modD, divD, powD, ltD, leD, gtD, geD, dLc, dFor, dYes, dRaise, dMt, dMt0, dSl, dPart, dNoPart, dFmt, dJoined, dJs, dOrT, forD, diSeq, diRng1, diRng2, diEnum, diZip2, diZip3, dWhile, dLenSet, bindP, bindPs, wipeD, dListRng, gdStar, gdSub, List.map_cons, List.map_nil, eqD_ii, eqD_ss, eqD_bb, neD_ii, neD_ss, neD_bb, truD_bl, truD_int, truD_non, truD_str, truD_tup, truD_rol, isB_bl, walkD_tup, walkD_rol, walkD_str, lenD_str, lenD_tupE, lenD_rolE, rdI_ii, addD_ii, addD_ss, addD_tt, mulD_ii, absD_i, maxD_ii, minD_ii, divmodD_ii, strD_i, intD_s, isND_nn, zero_le_size, List.length_cons, List.length_nil, sp_plus, sp2, appendD]
    refine ⟨tyD_lst hp', ixD_last (ds := pre.map encQ) (d := encQ ((desc row).take i).sum) ?_ (ixD_seq (ha.less L1) (d := encQ (rv row k)) (by simp [rv, hki]) ⟨_, _, rfl, rfl, (hr.desc.take i).sum.mono (by decide), (hr.rv k).mono (by decide), _, hp', ?_, hN _ _ ⟨?_, _, rfl⟩⟩)⟩
    · show G' p = _
      rw [hp', hpre]
      simp [Rat.zero_add]
    · rw [List.length_map, psums_length, List.length_take, desc_length, sizeLine_eq]; omega
    · have := L.upd (p := p) (o := .lst ((psums 0 ((desc row).take (i + 1))).map encQ))
      rw [gupd_gupd, psums_take_succ (desc_get hk)] at this
      rw [psums_take_succ (desc_get hk)]
      simpa using this
  · rintro δ G' ⟨L, x2, rfl⟩
    refine ⟨L _ _ (by rw [gupd_ne hqp]; exact gupd_same), ?_⟩
    simp only [dSeq, dNext, dRet, dRetN, dIfS, dDrop, dAsg, gdName, gdTup, gdNil, gdCons, dPar, dVar, dC, dOp, dCB, dCall, dCons, dNil, dTup, dLst, dB, dNot, dTru, dAnd, dOr, dAndV, dOrV, dNotV, dIf, dChain, dNeg, startD, List.map, List.length, List.replicate, List.append, List.cons_append, List.nil_append, List.append_nil, List.getElem?_cons_zero, List.getElem?_cons_succ, List.set_cons_zero, List.set_cons_succ, List.set_nil, Nat.sub_self, Nat.add_one_sub_one, Nat.reduceAdd, Nat.reduceSub, List.replicate_zero, List.replicate_succ, ixD_tup0, ixD_tup1, ixD_enc0, ixD_enc1, two_le_size, true_and, subD, modD, divD, powD, ltD, leD, gtD, geD, dLc, dFor, dYes, dRaise, dMt, dMt0, dSl, dPart, dNoPart, dFmt, dJoined, dJs, dOrT, forD, diSeq, diRng1, diRng2, diEnum, diZip2, diZip3, dWhile, dLenSet, bindP, bindPs, wipeD, dListRng, gdStar, gdSub, List.map_cons, List.map_nil, eqD_ii, eqD_ss, eqD_bb, neD_ii, neD_ss, neD_bb, truD_bl, truD_int, truD_non, truD_str, truD_tup, truD_rol, isB_bl, walkD_tup, walkD_rol, walkD_str, lenD_str, lenD_tupE, lenD_rolE, rdI_ii, addD_ii, addD_ss, addD_tt, mulD_ii, absD_i, maxD_ii, minD_ii, divmodD_ii, strD_i, intD_s, isND_nn, zero_le_size, List.length_cons, List.length_nil]
    rw [List.length_map, gf_length, List.take_of_length_le (by rw [desc_length]; exact Nat.le_refl _)] at L
    exact Fo.mk ((Less.upd (.new (.refl G) hq0)).trans L) (hQ p hp)

def sp_most : DSp := sp3 fun a b c G Q _ => ∃ (W : Int) (n k : Nat), a = .int W ∧ b = .int n ∧ c = .int k ∧ W.natAbs < 2 ^ 1000 ∧ n < 2 ^ 20 ∧ k ≤ n ∧ Q (encQ (bq W n k)) G
abbrev s_most : Stmt := topS 20
abbrev N_most : List Str := ["weight", "seats", "many"]
theorem sc_most : FnScope N_most ["weight", "seats", "many"] (defScope s_most) := ⟨rfl, rfl, rfl, by decide +kernel, rfl, by decide +kernel, by decide +kernel⟩
theorem ok_most (F : FunH K mg "most" s_most) (T : Tx K mg) (h_lowest : Has P w K mg base 2 "lowest" 2 [] sp_lowest) : Has P w K mg base 3 "most" 3 [] sp_most := by
  refine Has.ofF F sc_most (fun _ _ _ _ _ _ us hl => match us, hl with | [_, _, _], _ => rfl) len3 fun f cdv A outer s H E ds G Q Ed B hp h => ⟨_, (s_one (s_ret (d_call h_lowest B (a_cons (d_op o_mul (d_op o_mul (d_var 0) (d_var 2)) (d_op o_sub (d_var 1) (d_var 2))) (a_cons d_int a_nil))))), ?_⟩

  obtain ⟨a, b, c, rfl, W, n, k, rfl, rfl, rfl, hW, hn, hk, hQ⟩ := sp3_ex h
  simp only [dSeq, dNext, dRet, dRetN, dIfS, dDrop, dAsg, gdName, gdTup, gdNil, gdCons, dPar, dVar, dC, dOp, dCB, dCall, dCons, dNil, dTup, dLst, dB, dNot, dTru, dAnd, dOr, dAndV, dOrV, dNotV, dIf, dChain, dNeg, startD, List.map, List.length, List.replicate, List.append, List.cons_append, List.nil_append, List.append_nil, List.getElem?_cons_zero, List.getElem?_cons_succ, List.set_cons_zero, List.set_cons_succ, List.set_nil, Nat.sub_self, Nat.add_one_sub_one, Nat.reduceAdd, Nat.reduceSub, List.replicate_zero, List.replicate_succ, ixD_tup0, ixD_tup1, ixD_enc0, ixD_enc1, two_le_size, true_and, subD, modD, divD, powD, ltD, leD, gtD, geD, dLc, dFor, dYes, dRaise, dMt, dMt0, dSl, dPart, dNoPart, dFmt, dJoined, dJs, dOrT, forD, diSeq, diRng1, diRng2, diEnum, diZip2, diZip3, dWhile, dLenSet, bindP, bindPs, wipeD, dListRng, gdStar, gdSub, List.map_cons, List.map_nil, eqD_ii, eqD_ss, eqD_bb, neD_ii, neD_ss, neD_bb, truD_bl, truD_int, truD_non, truD_str, truD_tup, truD_rol, isB_bl, walkD_tup, walkD_rol, walkD_str, lenD_str, lenD_tupE, lenD_rolE, rdI_ii, addD_ii, addD_ss, addD_tt, mulD_ii, absD_i, maxD_ii, minD_ii, divmodD_ii, strD_i, intD_s, isND_nn, zero_le_size, List.length_cons, List.length_nil, sp_lowest, sp2]
  have h1 : (W * k).natAbs < 2 ^ (1000 + 20) := natAbs_mul_lt hW (by simp; omega)
  have h2 : ((n : Int) - k).natAbs < 2 ^ 20 := by omega
  exact ⟨mulOk_of (a := 1000) (b := 20) hW (by simp; omega), mulOk_of h1 h2, _, _, rfl, rfl, by decide, by decide, fo0 hQ⟩

def sp_fall : DSp := sp2 fun a b G Q _ => ∃ (W : Int) (row : List Rat), a = .int W ∧ SeqG G b (row.map encQ) ∧ Rok row ∧ row.length < 2 ^ 20 ∧ W.natAbs < 2 ^ 1000 ∧ Q (match fallN W row with | some k => .int k | none => .non) G
abbrev s_fall : Stmt := topS 21
abbrev N_fall : List Str := ["weight", "row", "many", "one"]
theorem sc_fall : FnScope N_fall ["weight", "row"] (defScope s_fall) := ⟨rfl, rfl, rfl, by decide +kernel, rfl, by decide +kernel, by decide +kernel⟩
theorem ok_fall (F : FunH K mg "fall" s_fall) (T : Tx K mg) (h_is_less : Has P w K mg base 1 "is_less" 2 [] sp_is_less) (h_sums_ahead : Has P w K mg base 4 "sums_ahead" 1 [] sp_sums_ahead) (h_most : Has P w K mg base 3 "most" 3 [] sp_most) : Has P w K mg base 5 "fall" 2 [] sp_fall := by
  refine Has.ofF F sc_fall (fun _ _ _ _ _ _ us hl => match us, hl with | [_, _], _ => rfl) len2 fun f cdv A outer s H E ds G Q Ed B hp h => ⟨_, (s_cons (s_for hp B.hc (i_enum T.b.enumerate (a_cons (d_call h_sums_ahead B (a_cons (d_var 1) a_nil)) a_nil)) (g_tup (n := 2) B.hc (gs_cons (g_name (i := 2) sc_fall.nd) (gs_cons (g_name (i := 3) sc_fall.nd) gs_nil))) (s_one (s_if (d_ttru (d_call h_is_less B (a_cons (d_call h_most B (a_cons (d_var 0) (a_cons (d_callB c_len T.b.len boot_len (a_cons (d_var 1) a_nil)) (a_cons (d_var 2) a_nil)))) (a_cons (d_var 3) a_nil)))) (s_one (s_ret (d_var 2))) s_nil)))
 (s_one (s_ret d_non))), ?_⟩

  obtain ⟨a, b, rfl, W, row, rfl, ha, hr, hz, hW, hQ⟩ := sp2_ex h
  simp only [dSeq, dNext, dRet, dRetN, dIfS, dDrop, dAsg, gdName, gdTup, gdNil, gdCons, dPar, dVar, dC, dOp, dCB, dCall, dCons, dNil, dTup, dLst, dB, dNot, dTru, dAnd, dOr, dAndV, dOrV, dNotV, dIf, dChain, dNeg, startD, List.map, List.length, List.replicate, List.append, List.cons_append, List.nil_append, List.append_nil, List.getElem?_cons_zero, List.getElem?_cons_succ, List.set_cons_zero, List.set_cons_succ, List.set_nil, Nat.sub_self, Nat.add_one_sub_one, Nat.reduceAdd, Nat.reduceSub, List.replicate_zero, List.replicate_succ, ixD_tup0, ixD_tup1, ixD_enc0, ixD_enc1, two_le_size, true_and, subD, modD, divD, powD, ltD, leD, gtD, geD, dLc, dFor, dYes, dRaise, dMt, dMt0, dSl, dPart, dNoPart, dFmt, dJoined, dJs, dOrT, forD, diSeq, diRng1, diRng2, diEnum, diZip2, diZip3, dWhile, dLenSet, bindP, bindPs, wipeD, dListRng, gdStar, gdSub, List.map_cons, List.map_nil, eqD_ii, eqD_ss, eqD_bb, neD_ii, neD_ss, neD_bb, truD_bl, truD_int, truD_non, truD_str, truD_tup, truD_rol, isB_bl, walkD_tup, walkD_rol, walkD_str, lenD_str, lenD_tupE, lenD_rolE, rdI_ii, addD_ii, addD_ss, addD_tt, mulD_ii, absD_i, maxD_ii, minD_ii, divmodD_ii, strD_i, intD_s, isND_nn, zero_le_size, List.length_cons, List.length_nil, sp_sums_ahead, sp1]
  refine ⟨row, ha, hr, hz, fun p hp => ⟨_, gupd_same, forD_inv (fun i δ G' => Less (gupd G p (.lst ((psums 0 (desc row)).map encQ))) G' ∧ (∀ j, j < i → ¬ bq W row.length j < top row j) ∧ ∃ x2 x3, δ = [some (.int W), some b, x2, x3]) ⟨.refl _, fun j hj => absurd hj (by omega), _, _, rfl⟩ ?_ ?_⟩⟩
  · rintro i d δ G' N hd ⟨L, hb, x2, x3, rfl⟩ hN
    obtain ⟨x, hx, rfl⟩ := enumD_at hd
    obtain ⟨q, hq, rfl⟩ := map_at hx
    obtain ⟨hi, rfl⟩ := psums_desc_get hq
    have L1 : Less G G' := (Less.new (.refl G) hp).trans L
    refine ⟨L.at, ?_⟩
    simp only [dSeq, dNext, dRet, dRetN, dIfS, dDrop, dAsg, gdName, gdTup, gdNil, gdCons, dPar, dVar, dC, dOp, dCB, dCall, dCons, dNil, dTup, dLst, dB, dNot, dTru, dAnd, dOr, dAndV, dOrV, dNotV, dIf, dChain, dNeg, startD, List.map, List.length, List.replicate, List.append, List.cons_append, List.nil_append, List.append_nil, List.getElem?_cons_zero, List.getElem?_cons_succ, List.set_cons_zero, List.set_cons_succ, List.set_nil, Nat.sub_self, Nat.add_one_sub_one, Nat.reduceAdd, Nat.reduceSub, List.replicate_zero, List.replicate_succ, ixD_tup0, ixD_tup1, ixD_enc0, ixD_enc1, two_le_size, true_and, subD, modD, divD, powD, ltD, leD, gtD, geD, dLc, dFor, dYes, dRaise, dMt, dMt0, dSl, dPart, dNoPart, dFmt, dJoined, dJs, dOrT, forD, diSeq, diRng1, diRng2, diEnum, diZip2, diZip3, dWhile, dLenSet, bindP, bindPs, wipeD, dListRng, gdStar, gdSub, List.map_cons, List.map_nil, eqD_ii, eqD_ss, eqD_bb, neD_ii, neD_ss, neD_bb, truD_bl, truD_int, truD_non, truD_str, truD_tup, truD_rol, isB_bl, walkD_tup, walkD_rol, walkD_str, lenD_str, lenD_tupE, lenD_rolE, rdI_ii, addD_ii, addD_ss, addD_tt, mulD_ii, absD_i, maxD_ii, minD_ii, divmodD_ii, strD_i, intD_s, isND_nn, zero_le_size, List.length_cons, List.length_nil, sp_most, sp3, sp_is_less, sp2]
    refine lenD_seq (ha.less L1) ?_
    rw [List.length_map]
    refine ⟨W, row.length, i, rfl, rfl, by simp, hW, hz, hi, _, _, rfl, rfl, (bq_sm hW hz hi).mono (by decide), (hr.top i).mono (by decide), ?_⟩
    by_cases hc : bq W row.length i < top row i
    · simp only [hc, decide_true, if_true]
      rw [fallN_some hi hc hb] at hQ
      simpa using Fo.mk L1 hQ
    · simp [hc]
      refine hN _ _ ⟨L, fun j hj => ?_, _, _, rfl⟩
      by_cases e : j = i
      · subst e; exact hc
      · exact hb j (by omega)
  · rintro δ G' ⟨L, hb, x2, x3, rfl⟩
    refine ⟨L.at, ?_⟩
    simp only [dSeq, dNext, dRet, dRetN, dIfS, dDrop, dAsg, gdName, gdTup, gdNil, gdCons, dPar, dVar, dC, dOp, dCB, dCall, dCons, dNil, dTup, dLst, dB, dNot, dTru, dAnd, dOr, dAndV, dOrV, dNotV, dIf, dChain, dNeg, startD, List.map, List.length, List.replicate, List.append, List.cons_append, List.nil_append, List.append_nil, List.getElem?_cons_zero, List.getElem?_cons_succ, List.set_cons_zero, List.set_cons_succ, List.set_nil, Nat.sub_self, Nat.add_one_sub_one, Nat.reduceAdd, Nat.reduceSub, List.replicate_zero, List.replicate_succ, ixD_tup0, ixD_tup1, ixD_enc0, ixD_enc1, two_le_size, true_and, subD, modD, divD, powD, ltD, leD, gtD, geD, dLc, dFor, dYes, dRaise, dMt, dMt0, dSl, dPart, dNoPart, dFmt, dJoined, dJs, dOrT, forD, diSeq, diRng1, diRng2, diEnum, diZip2, diZip3, dWhile, dLenSet, bindP, bindPs, wipeD, dListRng, gdStar, gdSub, List.map_cons, List.map_nil, eqD_ii, eqD_ss, eqD_bb, neD_ii, neD_ss, neD_bb, truD_bl, truD_int, truD_non, truD_str, truD_tup, truD_rol, isB_bl, walkD_tup, walkD_rol, walkD_str, lenD_str, lenD_tupE, lenD_rolE, rdI_ii, addD_ii, addD_ss, addD_tt, mulD_ii, absD_i, maxD_ii, minD_ii, divmodD_ii, strD_i, intD_s, isND_nn, zero_le_size, List.length_cons, List.length_nil]
    have e : fallN W row = none := fallN_none.mpr fun k hk => by
      have := hb k (by simp [enumD_length, psums_length, desc_length]; omega)
      grind
    rw [e] at hQ
    exact Fo.mk ((Less.new (.refl G) hp).trans L) hQ

def sp_is_within : DSp := sp2 fun a b G Q _ => ∃ (W : Int) (row : List Rat), a = .int W ∧ SeqG G b (row.map encQ) ∧ Rok row ∧ row.length < 2 ^ 20 ∧ W.natAbs < 2 ^ 1000 ∧ Q (.bl (decide (Fits W row))) G
abbrev s_is_within : Stmt := topS 22
abbrev N_is_within : List Str := ["weight", "row"]
theorem sc_is_within : FnScope N_is_within ["weight", "row"] (defScope s_is_within) := ⟨rfl, rfl, rfl, by decide +kernel, rfl, by decide +kernel, by decide +kernel⟩
theorem ok_is_within (F : FunH K mg "is_within" s_is_within) (T : Tx K mg) (h_sums_ahead : Has P w K mg base 4 "sums_ahead" 1 [] sp_sums_ahead) (h_fall : Has P w K mg base 5 "fall" 2 [] sp_fall) : Has P w K mg base 6 "is_within" 2 [] sp_is_within := by
  refine Has.ofF F sc_is_within (fun _ _ _ _ _ _ us hl => match us, hl with | [_, _], _ => rfl) len2 fun f cdv A outer s H E ds G Q Ed B hp h => ⟨_, (s_one (s_ret (d_andV (d_cmp (o_eq B.hu) (d_ix (d_call h_sums_ahead B (a_cons (d_var 1) a_nil)) (d_neg d_int)) (d_gc T.g_NOUGHT)) (d_one (d_cmp o_is (d_call h_fall B (a_cons (d_var 0) (a_cons (d_var 1) a_nil))) d_non))))), ?_⟩

  obtain ⟨a, b, rfl, W, row, rfl, ha, hr, hz, hW, hQ⟩ := sp2_ex h
  simp only [dSeq, dNext, dRet, dRetN, dIfS, dDrop, dAsg, gdName, gdTup, gdNil, gdCons, dPar, dVar, dC, dOp, dCB, dCall, dCons, dNil, dTup, dLst, dB, dNot, dTru, dAnd, dOr, dAndV, dOrV, dNotV, dIf, dChain, dNeg, startD, List.map, List.length, List.replicate, List.append, List.cons_append, List.nil_append, List.append_nil, List.getElem?_cons_zero, List.getElem?_cons_succ, List.set_cons_zero, List.set_cons_succ, List.set_nil, Nat.sub_self, Nat.add_one_sub_one, Nat.reduceAdd, Nat.reduceSub, List.replicate_zero, List.replicate_succ, ixD_tup0, ixD_tup1, ixD_enc0, ixD_enc1, two_le_size, true_and, subD, modD, divD, powD, ltD, leD, gtD, geD, dLc, dFor, dYes, dRaise, dMt, dMt0, dSl, dPart, dNoPart, dFmt, dJoined, dJs, dOrT, forD, diSeq, diRng1, diRng2, diEnum, diZip2, diZip3, dWhile, dLenSet, bindP, bindPs, wipeD, dListRng, gdStar, gdSub, List.map_cons, List.map_nil, eqD_ii, eqD_ss, eqD_bb, neD_ii, neD_ss, neD_bb, truD_bl, truD_int, truD_non, truD_str, truD_tup, truD_rol, isB_bl, walkD_tup, walkD_rol, walkD_str, lenD_str, lenD_tupE, lenD_rolE, rdI_ii, addD_ii, addD_ss, addD_tt, mulD_ii, absD_i, maxD_ii, minD_ii, divmodD_ii, strD_i, intD_s, isND_nn, zero_le_size, List.length_cons, List.length_nil, sp_sums_ahead, sp1, sp_fall, sp2]
  refine ⟨row, ha, hr, hz, fun p hp => ?_⟩
  obtain ⟨pre, hpre⟩ := psums_last 0 (desc row)
  have L0 : Less G (gupd G p (.lst ((psums 0 (desc row)).map encQ))) := .new (.refl G) hp
  refine ixD_last (ds := pre.map encQ) (d := encQ row.sum) ?_ (eqD_Q (q := 0) ?_)
  · show gupd _ _ _ p = _
    rw [gupd_same, hpre, sum_perm (desc_perm row)]
    simp [Rat.zero_add]
  · simp only [dSeq, dNext, dRet, dRetN, dIfS, dDrop, dAsg, gdName, gdTup, gdNil, gdCons, dPar, dVar, dC, dOp, dCB, dCall, dCons, dNil, dTup, dLst, dB, dNot, dTru, dAnd, dOr, dAndV, dOrV, dNotV, dIf, dChain, dNeg, startD, List.map, List.length, List.replicate, List.append, List.cons_append, List.nil_append, List.append_nil, List.getElem?_cons_zero, List.getElem?_cons_succ, List.set_cons_zero, List.set_cons_succ, List.set_nil, Nat.sub_self, Nat.add_one_sub_one, Nat.reduceAdd, Nat.reduceSub, List.replicate_zero, List.replicate_succ, ixD_tup0, ixD_tup1, ixD_enc0, ixD_enc1, two_le_size, true_and, subD, modD, divD, powD, ltD, leD, gtD, geD, dLc, dFor, dYes, dRaise, dMt, dMt0, dSl, dPart, dNoPart, dFmt, dJoined, dJs, dOrT, forD, diSeq, diRng1, diRng2, diEnum, diZip2, diZip3, dWhile, dLenSet, bindP, bindPs, wipeD, dListRng, gdStar, gdSub, List.map_cons, List.map_nil, eqD_ii, eqD_ss, eqD_bb, neD_ii, neD_ss, neD_bb, truD_bl, truD_int, truD_non, truD_str, truD_tup, truD_rol, isB_bl, walkD_tup, walkD_rol, walkD_str, lenD_str, lenD_tupE, lenD_rolE, rdI_ii, addD_ii, addD_ss, addD_tt, mulD_ii, absD_i, maxD_ii, minD_ii, divmodD_ii, strD_i, intD_s, isND_nn, zero_le_size, List.length_cons, List.length_nil]
    rw [fits_decide] at hQ
    by_cases hc : row.sum = 0
    · simp only [hc, decide_true, if_true]
      refine ⟨W, row, rfl, ha.less L0, hr, hz, hW, ?_⟩
      simp only [hc, decide_true, Bool.true_and] at hQ
      cases e : fallN W row with
      | none => rw [e] at hQ; simpa [isND] using Fo.mk L0 hQ
      | some k => rw [e] at hQ; simpa [isND] using Fo.mk L0 hQ
    · simp [hc]
      simp [hc] at hQ
      exact Fo.mk L0 hQ

end
end Q
set_option maxHeartbeats 4000000
namespace Q
open PySem PySem.Spec PyProof.Rows L2

section
variable {P : Program} {w : World} {K : PySem.W.Frag} {mg : Str → Option Value} {base : Heap}
def sp_is_part : DSp := sp1 fun a G Q _ => ∃ q : Rat, a = encQ q ∧ Sm q ∧ Q (.bl true) G
abbrev s_is_part : Stmt := topS 11
abbrev N_is_part : List Str := ["thing", "one", "above", "below"]
theorem sc_is_part : FnScope N_is_part ["thing"] (defScope s_is_part) := ⟨rfl, rfl, rfl, by decide +kernel, rfl, by decide +kernel, by decide +kernel⟩
theorem ok_is_part (F : FunH K mg "is_part" s_is_part) (T : Tx K mg) (h_is_whole : Has P w K mg base 1 "is_whole" 1 [] sp_is_whole) (h_lowest : Has P w K mg base 2 "lowest" 2 [] sp_lowest) : Has P w K mg base 3 "is_part" 1 [] sp_is_part := by
  refine Has.ofF F sc_is_part (fun _ _ _ _ _ _ us hl => match us, hl with | [_], _ => rfl) len1 fun f cdv A outer s H E ds G Q Ed B hp h => ⟨_, (s_cons (s_if (PWd.t (d_or (d_tnot (d_ttru (d_callB c_isi T.b.isinstance boot_isinstance (a_cons (d_var 0) (a_cons (d_ty T.b.tuple boot_tuple) a_nil))))) (d_or (d_tcmp (o_ne B.hu) (d_callB c_len T.b.len boot_len (a_cons (d_var 0) a_nil)) d_int) (d_or1 (d_tnot (d_ttru (d_callB (c_all B.hc) T.b.all boot_all (a_cons (d_lc (own := [("one", 1)]) (p := .nm 1) B.hc sc_is_part.nd (blkOk_by (own := [("one", 1)]) (N := N_is_part) (by kernel_rfl)) (by decide) (i_seq (d_var 0)) (fun s1 H1 C1 cl1 fp1 => (p_name (i := 1) sc_is_part.nd)) (fun s1 H1 C1 cl1 fp1 => ts_nil) (fun s1 H1 C1 cl1 fp1 => (d_call h_is_whole (B.blk s1 H1 _ _ fp1) (a_cons (d_var 1) a_nil)))) a_nil)))))))) (s_one (s_ret d_bl)) s_nil)
 (s_cons (s_asg (d_var 0) (g_tup (n := 2) B.hc (gs_cons (g_name (i := 2) sc_is_part.nd) (gs_cons (g_name (i := 3) sc_is_part.nd) gs_nil))))
 (s_one (s_ret (d_andV (d_cmp o_gt (d_var 3) d_int) (d_one (d_cmp (o_eq B.hu) (d_call h_lowest B (a_cons (d_var 2) (a_cons (d_var 3) a_nil))) (d_var 0)))))))), ?_⟩

  obtain ⟨a, rfl, q, rfl, hq, hQ⟩ := sp1_ex h
  have hd := hq.den_pos
  simp only [dSeq, dNext, dRet, dRetN, dIfS, dDrop, dAsg, gdName, gdTup, gdNil, gdCons, dPar, dVar, dC, dOp, dCB, dCall, dCons, dNil, dTup, dLst, dB, dNot, dTru, dAnd, dOr, dAndV, dOrV, dNotV, dIf, dChain, dNeg, startD, List.map, List.length, List.replicate, List.append, List.cons_append, List.nil_append, List.append_nil, List.getElem?_cons_zero, List.getElem?_cons_succ, List.set_cons_zero, List.set_cons_succ, List.set_nil, Nat.sub_self, Nat.add_one_sub_one, Nat.reduceAdd, Nat.reduceSub, List.replicate_zero, List.replicate_succ, ixD_tup0, ixD_tup1, ixD_enc0, ixD_enc1, two_le_size, true_and, subD, modD, divD, powD, ltD, leD, gtD, geD, dLc, dFor, dYes, dRaise, dMt, dMt0, dSl, dPart, dNoPart, dFmt, dJoined, dJs, dOrT, forD, diSeq, diRng1, diRng2, diEnum, diZip2, diZip3, dWhile, dLenSet, bindP, bindPs, wipeD, dListRng, gdStar, gdSub, List.map_cons, List.map_nil, eqD_ii, eqD_ss, eqD_bb, neD_ii, neD_ss, neD_bb, truD_bl, truD_int, truD_non, truD_str, truD_tup, truD_rol, isB_bl, walkD_tup, walkD_rol, walkD_str, lenD_str, lenD_tupE, lenD_rolE, rdI_ii, addD_ii, addD_ss, addD_tt, mulD_ii, absD_i, maxD_ii, minD_ii, divmodD_ii, strD_i, intD_s, isND_nn, zero_le_size, List.length_cons, List.length_nil, encQ, isiD, sp_is_whole, sp1]
  refine ⟨by simp, _, rfl, ?_⟩
  simp only [isN, List.length_cons]
  intro p hp
  refine lcD_map1 (xs := [q.num, (q.den : Int)]) (e := D.int) (fun _ => .bl true) hp (by simp [sizeLine_eq]) (fun _ _ _ => trivial) (fun x hx => ⟨_, rfl, fun acc G' N L h => ?_⟩) (fun G' L => ?_)
  · simp only [dSeq, dNext, dRet, dRetN, dIfS, dDrop, dAsg, gdName, gdTup, gdNil, gdCons, dPar, dVar, dC, dOp, dCB, dCall, dCons, dNil, dTup, dLst, dB, dNot, dTru, dAnd, dOr, dAndV, dOrV, dNotV, dIf, dChain, dNeg, startD, List.map, List.length, List.replicate, List.append, List.cons_append, List.nil_append, List.append_nil, List.getElem?_cons_zero, List.getElem?_cons_succ, List.set_cons_zero, List.set_cons_succ, List.set_nil, Nat.sub_self, Nat.add_one_sub_one, Nat.reduceAdd, Nat.reduceSub, List.replicate_zero, List.replicate_succ, ixD_tup0, ixD_tup1, ixD_enc0, ixD_enc1, two_le_size, true_and, subD, modD, divD, powD, ltD, leD, gtD, geD, dLc, dFor, dYes, dRaise, dMt, dMt0, dSl, dPart, dNoPart, dFmt, dJoined, dJs, dOrT, forD, diSeq, diRng1, diRng2, diEnum, diZip2, diZip3, dWhile, dLenSet, bindP, bindPs, wipeD, dListRng, gdStar, gdSub, List.map_cons, List.map_nil, eqD_ii, eqD_ss, eqD_bb, neD_ii, neD_ss, neD_bb, truD_bl, truD_int, truD_non, truD_str, truD_tup, truD_rol, isB_bl, walkD_tup, walkD_rol, walkD_str, lenD_str, lenD_tupE, lenD_rolE, rdI_ii, addD_ii, addD_ss, addD_tt, mulD_ii, absD_i, maxD_ii, minD_ii, divmodD_ii, strD_i, intD_s, isND_nn, zero_le_size, List.length_cons, List.length_nil, sp1]
    exact ⟨_, rfl, h _ L⟩
  · refine allD_at (bs := [true, true]) L.at ?_
    have L1 := (Less.new (.refl G) hp).trans L
    simp only [dSeq, dNext, dRet, dRetN, dIfS, dDrop, dAsg, gdName, gdTup, gdNil, gdCons, dPar, dVar, dC, dOp, dCB, dCall, dCons, dNil, dTup, dLst, dB, dNot, dTru, dAnd, dOr, dAndV, dOrV, dNotV, dIf, dChain, dNeg, startD, List.map, List.length, List.replicate, List.append, List.cons_append, List.nil_append, List.append_nil, List.getElem?_cons_zero, List.getElem?_cons_succ, List.set_cons_zero, List.set_cons_succ, List.set_nil, Nat.sub_self, Nat.add_one_sub_one, Nat.reduceAdd, Nat.reduceSub, List.replicate_zero, List.replicate_succ, ixD_tup0, ixD_tup1, ixD_enc0, ixD_enc1, two_le_size, true_and, subD, modD, divD, powD, ltD, leD, gtD, geD, dLc, dFor, dYes, dRaise, dMt, dMt0, dSl, dPart, dNoPart, dFmt, dJoined, dJs, dOrT, forD, diSeq, diRng1, diRng2, diEnum, diZip2, diZip3, dWhile, dLenSet, bindP, bindPs, wipeD, dListRng, gdStar, gdSub, List.map_cons, List.map_nil, eqD_ii, eqD_ss, eqD_bb, neD_ii, neD_ss, neD_bb, truD_bl, truD_int, truD_non, truD_str, truD_tup, truD_rol, isB_bl, walkD_tup, walkD_rol, walkD_str, lenD_str, lenD_tupE, lenD_rolE, rdI_ii, addD_ii, addD_ss, addD_tt, mulD_ii, absD_i, maxD_ii, minD_ii, divmodD_ii, strD_i, intD_s, isND_nn, zero_le_size, List.length_cons, List.length_nil]
    simp only [List.all_cons, id, List.all_nil, Bool.and_self, Bool.not_true, Bool.false_eq_true, if_false, hd, decide_true, if_true]
    simp only [sp_lowest, sp2]
    refine ⟨_, _, rfl, rfl, hd, ?_, ?_⟩
    · have h2 : q.den < 2 ^ 4000 := hq.2
      have h3 : (2 : Nat) ^ 4000 ≤ 2 ^ 8900 := Nat.pow_le_pow_right (by decide) (by decide)
      rw [Int.natAbs_natCast]
      exact Nat.lt_of_lt_of_le h2 h3
    · rw [divInt_self]
      exact eqD_Q (q := q) (by simpa using Fo.mk L1 hQ)

def sp_is_name : DSp := sp1 fun a G Q _ => ∃ T, tyN a G = some T ∧ (∀ z, a = .str z → z.length ≤ sizeLine) ∧ Q (.bl (isNmD a)) G
abbrev s_is_name : Stmt := topS 27
abbrev N_is_name : List Str := ["thing", "sign"]
theorem sc_is_name : FnScope N_is_name ["thing"] (defScope s_is_name) := ⟨rfl, rfl, rfl, by decide +kernel, rfl, by decide +kernel, by decide +kernel⟩
theorem ok_is_name (F : FunH K mg "is_name" s_is_name) (T : Tx K mg)  : Has P w K mg base 1 "is_name" 1 [] sp_is_name := by
  refine Has.ofF F sc_is_name (fun _ _ _ _ _ _ us hl => match us, hl with | [_], _ => rfl) len1 fun f cdv A outer s H E ds G Q Ed B hp h => ⟨_, (s_cons (s_if (PWd.t (d_or (d_tnot (d_ttru (d_callB c_isi T.b.isinstance boot_isinstance (a_cons (d_var 0) (a_cons (d_ty T.b.str boot_str) a_nil))))) (d_or1 (d_tnot (d_tchain o_le o_le d_int (d_callB c_len T.b.len boot_len (a_cons (d_var 0) a_nil)) (d_gc T.g_MOST_LETTERS)))))) (s_one (s_ret d_bl)) s_nil)
 (s_one (s_ret (d_callB (c_all B.hc) T.b.all boot_all (a_cons (d_lc (own := [("sign", 1)]) (p := .nm 1) B.hc sc_is_name.nd (blkOk_by (own := [("sign", 1)]) (N := N_is_name) (by kernel_rfl)) (by decide) (i_seq (d_var 0)) (fun s1 H1 C1 cl1 fp1 => (p_name (i := 1) sc_is_name.nd)) (fun s1 H1 C1 cl1 fp1 => ts_nil) (fun s1 H1 C1 cl1 fp1 => (d_cmp o_in (d_var 1) (d_gc T.g_LETTERS)))) a_nil))))), ?_⟩

  obtain ⟨a, rfl, T', hT, hz, hQ⟩ := sp1_ex h
  simp only [dSeq, dNext, dRet, dRetN, dIfS, dDrop, dAsg, gdName, gdTup, gdNil, gdCons, dPar, dVar, dC, dOp, dCB, dCall, dCons, dNil, dTup, dLst, dB, dNot, dTru, dAnd, dOr, dAndV, dOrV, dNotV, dIf, dChain, dNeg, startD, List.map, List.length, List.replicate, List.append, List.cons_append, List.nil_append, List.append_nil, List.getElem?_cons_zero, List.getElem?_cons_succ, List.set_cons_zero, List.set_cons_succ, List.set_nil, Nat.sub_self, Nat.add_one_sub_one, Nat.reduceAdd, Nat.reduceSub, List.replicate_zero, List.replicate_succ, ixD_tup0, ixD_tup1, ixD_enc0, ixD_enc1, two_le_size, true_and, subD, modD, divD, powD, ltD, leD, gtD, geD, dLc, dFor, dYes, dRaise, dMt, dMt0, dSl, dPart, dNoPart, dFmt, dJoined, dJs, dOrT, forD, diSeq, diRng1, diRng2, diEnum, diZip2, diZip3, dWhile, dLenSet, bindP, bindPs, wipeD, dListRng, gdStar, gdSub, List.map_cons, List.map_nil, eqD_ii, eqD_ss, eqD_bb, neD_ii, neD_ss, neD_bb, truD_bl, truD_int, truD_non, truD_str, truD_tup, truD_rol, isB_bl, walkD_tup, walkD_rol, walkD_str, lenD_str, lenD_tupE, lenD_rolE, rdI_ii, addD_ii, addD_ss, addD_tt, mulD_ii, absD_i, maxD_ii, minD_ii, divmodD_ii, strD_i, intD_s, isND_nn, zero_le_size, List.length_cons, List.length_nil, isiD]
  refine ⟨by simp, T', hT, ?_⟩
  by_cases hs : ∃ z, a = .str z
  · obtain ⟨z, rfl⟩ := hs
    have hz := hz z rfl
    cases hT
    obtain ⟨l, rfl⟩ : ∃ l, z = tx l := ⟨z.cps.toList, (SX.S_tl z).symm⟩
    rw [tx_length] at hz
    simp only [dSeq, dNext, dRet, dRetN, dIfS, dDrop, dAsg, gdName, gdTup, gdNil, gdCons, dPar, dVar, dC, dOp, dCB, dCall, dCons, dNil, dTup, dLst, dB, dNot, dTru, dAnd, dOr, dAndV, dOrV, dNotV, dIf, dChain, dNeg, startD, List.map, List.length, List.replicate, List.append, List.cons_append, List.nil_append, List.append_nil, List.getElem?_cons_zero, List.getElem?_cons_succ, List.set_cons_zero, List.set_cons_succ, List.set_nil, Nat.sub_self, Nat.add_one_sub_one, Nat.reduceAdd, Nat.reduceSub, List.replicate_zero, List.replicate_succ, ixD_tup0, ixD_tup1, ixD_enc0, ixD_enc1, two_le_size, true_and, subD, modD, divD, powD, ltD, leD, gtD, geD, dLc, dFor, dYes, dRaise, dMt, dMt0, dSl, dPart, dNoPart, dFmt, dJoined, dJs, dOrT, forD, diSeq, diRng1, diRng2, diEnum, diZip2, diZip3, dWhile, dLenSet, bindP, bindPs, wipeD, dListRng, gdStar, gdSub, List.map_cons, List.map_nil, eqD_ii, eqD_ss, eqD_bb, neD_ii, neD_ss, neD_bb, truD_bl, truD_int, truD_non, truD_str, truD_tup, truD_rol, isB_bl, walkD_tup, walkD_rol, walkD_str, lenD_str, lenD_tupE, lenD_rolE, rdI_ii, addD_ii, addD_ss, addD_tt, mulD_ii, absD_i, maxD_ii, minD_ii, divmodD_ii, strD_i, intD_s, isND_nn, zero_le_size, List.length_cons, List.length_nil, isN, dChain]
    rw [tx_length]
    refine ⟨hz, ?_⟩
    simp only [isNmD, nmOk, okNm] at hQ
    by_cases h0 : (1 : Int) ≤ (l.length : Nat)
    · simp only [h0, decide_true, if_true]
      by_cases h8 : ((l.length : Nat) : Int) ≤ 8
      · simp only [h8, decide_true, if_true]
        simp [signs_map]
        intro p hp
        have hl : l.length ≤ sizeLine := hz
        refine lcD_map1 (fun c : Nat => .bl (decide (97 ≤ c ∧ c ≤ 122))) hp hl (fun _ _ _ => trivial) (fun c hc => ⟨_, rfl, fun acc G' N L h => ?_⟩) (fun G' L => ?_)
        · simp only [dSeq, dNext, dRet, dRetN, dIfS, dDrop, dAsg, gdName, gdTup, gdNil, gdCons, dPar, dVar, dC, dOp, dCB, dCall, dCons, dNil, dTup, dLst, dB, dNot, dTru, dAnd, dOr, dAndV, dOrV, dNotV, dIf, dChain, dNeg, startD, List.map, List.length, List.replicate, List.append, List.cons_append, List.nil_append, List.append_nil, List.getElem?_cons_zero, List.getElem?_cons_succ, List.set_cons_zero, List.set_cons_succ, List.set_nil, Nat.sub_self, Nat.add_one_sub_one, Nat.reduceAdd, Nat.reduceSub, List.replicate_zero, List.replicate_succ, ixD_tup0, ixD_tup1, ixD_enc0, ixD_enc1, two_le_size, true_and, subD, modD, divD, powD, ltD, leD, gtD, geD, dLc, dFor, dYes, dRaise, dMt, dMt0, dSl, dPart, dNoPart, dFmt, dJoined, dJs, dOrT, forD, diSeq, diRng1, diRng2, diEnum, diZip2, diZip3, dWhile, dLenSet, bindP, bindPs, wipeD, dListRng, gdStar, gdSub, List.map_cons, List.map_nil, eqD_ii, eqD_ss, eqD_bb, neD_ii, neD_ss, neD_bb, truD_bl, truD_int, truD_non, truD_str, truD_tup, truD_rol, isB_bl, walkD_tup, walkD_rol, walkD_str, lenD_str, lenD_tupE, lenD_rolE, rdI_ii, addD_ii, addD_ss, addD_tt, mulD_ii, absD_i, maxD_ii, minD_ii, divmodD_ii, strD_i, intD_s, isND_nn, zero_le_size, List.length_cons, List.length_nil]
          refine ⟨c, rfl, ?_⟩
          rw [lit_letters, letters_mem]
          simpa using h _ L
        · refine allD_at (bs := l.map fun c => decide (97 ≤ c ∧ c ≤ 122)) (by simpa [Function.comp_def] using L.at) ?_
          have e : (l.map fun c => decide (97 ≤ c ∧ c ≤ 122)).all id = decide (l ≠ [] ∧ l.length ≤ 8 ∧ ∀ c ∈ l, 97 ≤ c ∧ c ≤ 122) := by
            rw [Bool.eq_iff_iff]
            simp
            have : l ≠ [] := by rintro rfl; simp at h0
            constructor
            · intro h; exact ⟨this, by omega, h⟩
            · intro h; exact h.2.2
          rw [e]
          exact Fo.mk ((Less.new (.refl G) hp).trans L) hQ
      · have : ¬ (l ≠ [] ∧ l.length ≤ 8 ∧ ∀ c ∈ l, 97 ≤ c ∧ c ≤ 122) := by omega
        simp [h8]
        simp only [this, decide_false] at hQ
        exact fo0 hQ
    · have : ¬ (l ≠ [] ∧ l.length ≤ 8 ∧ ∀ c ∈ l, 97 ≤ c ∧ c ≤ 122) := by
        have : l = [] := by
          cases l with
          | nil => rfl
          | cons _ _ => simp at h0; omega
        simp [this]
      simp [h0]
      simp only [this, decide_false] at hQ
      exact fo0 hQ
  · obtain ⟨hn, e⟩ := not_str hT hs
    rw [hn]
    rw [e] at hQ
    simp
    exact fo0 hQ

def sp_is_weight : DSp := sp1 fun a G Q _ => ∃ T, tyN a G = some T ∧ Q (.bl (isWtD a)) G
abbrev s_is_weight : Stmt := topS 28
abbrev N_is_weight : List Str := ["thing"]
theorem sc_is_weight : FnScope N_is_weight ["thing"] (defScope s_is_weight) := ⟨rfl, rfl, rfl, by decide +kernel, rfl, by decide +kernel, by decide +kernel⟩
theorem ok_is_weight (F : FunH K mg "is_weight" s_is_weight) (T : Tx K mg) (h_is_whole : Has P w K mg base 1 "is_whole" 1 [] sp_is_whole) : Has P w K mg base 2 "is_weight" 1 [] sp_is_weight := by
  refine Has.ofF F sc_is_weight (fun _ _ _ _ _ _ us hl => match us, hl with | [_], _ => rfl) len1 fun f cdv A outer s H E ds G Q Ed B hp h => ⟨_, (s_one (s_ret (d_andV (d_call h_is_whole B (a_cons (d_var 0) a_nil)) (d_one (d_cmp o_ge (d_var 0) d_int))))), ?_⟩

  obtain ⟨a, rfl, T', hT, hQ⟩ := sp1_ex h
  simp only [dSeq, dNext, dRet, dRetN, dIfS, dDrop, dAsg, gdName, gdTup, gdNil, gdCons, dPar, dVar, dC, dOp, dCB, dCall, dCons, dNil, dTup, dLst, dB, dNot, dTru, dAnd, dOr, dAndV, dOrV, dNotV, dIf, dChain, dNeg, startD, List.map, List.length, List.replicate, List.append, List.cons_append, List.nil_append, List.append_nil, List.getElem?_cons_zero, List.getElem?_cons_succ, List.set_cons_zero, List.set_cons_succ, List.set_nil, Nat.sub_self, Nat.add_one_sub_one, Nat.reduceAdd, Nat.reduceSub, List.replicate_zero, List.replicate_succ, ixD_tup0, ixD_tup1, ixD_enc0, ixD_enc1, two_le_size, true_and, subD, modD, divD, powD, ltD, leD, gtD, geD, dLc, dFor, dYes, dRaise, dMt, dMt0, dSl, dPart, dNoPart, dFmt, dJoined, dJs, dOrT, forD, diSeq, diRng1, diRng2, diEnum, diZip2, diZip3, dWhile, dLenSet, bindP, bindPs, wipeD, dListRng, gdStar, gdSub, List.map_cons, List.map_nil, eqD_ii, eqD_ss, eqD_bb, neD_ii, neD_ss, neD_bb, truD_bl, truD_int, truD_non, truD_str, truD_tup, truD_rol, isB_bl, walkD_tup, walkD_rol, walkD_str, lenD_str, lenD_tupE, lenD_rolE, rdI_ii, addD_ii, addD_ss, addD_tt, mulD_ii, absD_i, maxD_ii, minD_ii, divmodD_ii, strD_i, intD_s, isND_nn, zero_le_size, List.length_cons, List.length_nil, sp_is_whole, sp1]
  refine ⟨T', hT, ?_⟩
  try simp only [dSeq, dNext, dRet, dRetN, dIfS, dDrop, dAsg, gdName, gdTup, gdNil, gdCons, dPar, dVar, dC, dOp, dCB, dCall, dCons, dNil, dTup, dLst, dB, dNot, dTru, dAnd, dOr, dAndV, dOrV, dNotV, dIf, dChain, dNeg, startD, List.map, List.length, List.replicate, List.append, List.cons_append, List.nil_append, List.append_nil, List.getElem?_cons_zero, List.getElem?_cons_succ, List.set_cons_zero, List.set_cons_succ, List.set_nil, Nat.sub_self, Nat.add_one_sub_one, Nat.reduceAdd, Nat.reduceSub, List.replicate_zero, List.replicate_succ, ixD_tup0, ixD_tup1, ixD_enc0, ixD_enc1, two_le_size, true_and, subD, modD, divD, powD, ltD, leD, gtD, geD, dLc, dFor, dYes, dRaise, dMt, dMt0, dSl, dPart, dNoPart, dFmt, dJoined, dJs, dOrT, forD, diSeq, diRng1, diRng2, diEnum, diZip2, diZip3, dWhile, dLenSet, bindP, bindPs, wipeD, dListRng, gdStar, gdSub, List.map_cons, List.map_nil, eqD_ii, eqD_ss, eqD_bb, neD_ii, neD_ss, neD_bb, truD_bl, truD_int, truD_non, truD_str, truD_tup, truD_rol, isB_bl, walkD_tup, walkD_rol, walkD_str, lenD_str, lenD_tupE, lenD_rolE, rdI_ii, addD_ii, addD_ss, addD_tt, mulD_ii, absD_i, maxD_ii, minD_ii, divmodD_ii, strD_i, intD_s, isND_nn, zero_le_size, List.length_cons, List.length_nil]
  cases a <;> simp [isW] <;> first | exact fo0 hQ | (simp only [dSeq, dNext, dRet, dRetN, dIfS, dDrop, dAsg, gdName, gdTup, gdNil, gdCons, dPar, dVar, dC, dOp, dCB, dCall, dCons, dNil, dTup, dLst, dB, dNot, dTru, dAnd, dOr, dAndV, dOrV, dNotV, dIf, dChain, dNeg, startD, List.map, List.length, List.replicate, List.append, List.cons_append, List.nil_append, List.append_nil, List.getElem?_cons_zero, List.getElem?_cons_succ, List.set_cons_zero, List.set_cons_succ, List.set_nil, Nat.sub_self, Nat.add_one_sub_one, Nat.reduceAdd, Nat.reduceSub, List.replicate_zero, List.replicate_succ, ixD_tup0, ixD_tup1, ixD_enc0, ixD_enc1, two_le_size, true_and, subD, modD, divD, powD, ltD, leD, gtD, geD, dLc, dFor, dYes, dRaise, dMt, dMt0, dSl, dPart, dNoPart, dFmt, dJoined, dJs, dOrT, forD, diSeq, diRng1, diRng2, diEnum, diZip2, diZip3, dWhile, dLenSet, bindP, bindPs, wipeD, dListRng, gdStar, gdSub, List.map_cons, List.map_nil, eqD_ii, eqD_ss, eqD_bb, neD_ii, neD_ss, neD_bb, truD_bl, truD_int, truD_non, truD_str, truD_tup, truD_rol, isB_bl, walkD_tup, walkD_rol, walkD_str, lenD_str, lenD_tupE, lenD_rolE, rdI_ii, addD_ii, addD_ss, addD_tt, mulD_ii, absD_i, maxD_ii, minD_ii, divmodD_ii, strD_i, intD_s, isND_nn, zero_le_size, List.length_cons, List.length_nil]; exact fo0 (by simpa [isWtD] using hQ))

def sp_want_weight : DSp := sp1 fun a G Q E => ∃ T, tyN a G = some T ∧ (if (isWtD a) = true then Q .non G else E "NoWeight" [] G)
abbrev s_want_weight : Stmt := topS 29
abbrev N_want_weight : List Str := ["thing"]
theorem sc_want_weight : FnScope N_want_weight ["thing"] (defScope s_want_weight) := ⟨rfl, rfl, rfl, by decide +kernel, rfl, by decide +kernel, by decide +kernel⟩
theorem ok_want_weight (F : FunH K mg "want_weight" s_want_weight) (T : Tx K mg) (h_is_weight : Has P w K mg base 2 "is_weight" 1 [] sp_is_weight) : Has P w K mg base 3 "want_weight" 1 [] sp_want_weight := by
  refine Has.ofF F sc_want_weight (fun _ _ _ _ _ _ us hl => match us, hl with | [_], _ => rfl) len1 fun f cdv A outer s H E ds G Q Ed B hp h => ⟨_, (s_one (s_if (d_tnot (d_ttru (d_call h_is_weight B (a_cons (d_var 0) a_nil)))) (s_one (s_raise T.x_NoWeight B)) s_nil)), ?_⟩

  obtain ⟨a, rfl, T', hT, hQ⟩ := sp1_ex h
  simp only [dSeq, dNext, dRet, dRetN, dIfS, dDrop, dAsg, gdName, gdTup, gdNil, gdCons, dPar, dVar, dC, dOp, dCB, dCall, dCons, dNil, dTup, dLst, dB, dNot, dTru, dAnd, dOr, dAndV, dOrV, dNotV, dIf, dChain, dNeg, startD, List.map, List.length, List.replicate, List.append, List.cons_append, List.nil_append, List.append_nil, List.getElem?_cons_zero, List.getElem?_cons_succ, List.set_cons_zero, List.set_cons_succ, List.set_nil, Nat.sub_self, Nat.add_one_sub_one, Nat.reduceAdd, Nat.reduceSub, List.replicate_zero, List.replicate_succ, ixD_tup0, ixD_tup1, ixD_enc0, ixD_enc1, two_le_size, true_and, subD, modD, divD, powD, ltD, leD, gtD, geD, dLc, dFor, dYes, dRaise, dMt, dMt0, dSl, dPart, dNoPart, dFmt, dJoined, dJs, dOrT, forD, diSeq, diRng1, diRng2, diEnum, diZip2, diZip3, dWhile, dLenSet, bindP, bindPs, wipeD, dListRng, gdStar, gdSub, List.map_cons, List.map_nil, eqD_ii, eqD_ss, eqD_bb, neD_ii, neD_ss, neD_bb, truD_bl, truD_int, truD_non, truD_str, truD_tup, truD_rol, isB_bl, walkD_tup, walkD_rol, walkD_str, lenD_str, lenD_tupE, lenD_rolE, rdI_ii, addD_ii, addD_ss, addD_tt, mulD_ii, absD_i, maxD_ii, minD_ii, divmodD_ii, strD_i, intD_s, isND_nn, zero_le_size, List.length_cons, List.length_nil, sp_is_weight, sp1]
  refine ⟨T', hT, ?_⟩
  try simp only [dSeq, dNext, dRet, dRetN, dIfS, dDrop, dAsg, gdName, gdTup, gdNil, gdCons, dPar, dVar, dC, dOp, dCB, dCall, dCons, dNil, dTup, dLst, dB, dNot, dTru, dAnd, dOr, dAndV, dOrV, dNotV, dIf, dChain, dNeg, startD, List.map, List.length, List.replicate, List.append, List.cons_append, List.nil_append, List.append_nil, List.getElem?_cons_zero, List.getElem?_cons_succ, List.set_cons_zero, List.set_cons_succ, List.set_nil, Nat.sub_self, Nat.add_one_sub_one, Nat.reduceAdd, Nat.reduceSub, List.replicate_zero, List.replicate_succ, ixD_tup0, ixD_tup1, ixD_enc0, ixD_enc1, two_le_size, true_and, subD, modD, divD, powD, ltD, leD, gtD, geD, dLc, dFor, dYes, dRaise, dMt, dMt0, dSl, dPart, dNoPart, dFmt, dJoined, dJs, dOrT, forD, diSeq, diRng1, diRng2, diEnum, diZip2, diZip3, dWhile, dLenSet, bindP, bindPs, wipeD, dListRng, gdStar, gdSub, List.map_cons, List.map_nil, eqD_ii, eqD_ss, eqD_bb, neD_ii, neD_ss, neD_bb, truD_bl, truD_int, truD_non, truD_str, truD_tup, truD_rol, isB_bl, walkD_tup, walkD_rol, walkD_str, lenD_str, lenD_tupE, lenD_rolE, rdI_ii, addD_ii, addD_ss, addD_tt, mulD_ii, absD_i, maxD_ii, minD_ii, divmodD_ii, strD_i, intD_s, isND_nn, zero_le_size, List.length_cons, List.length_nil]
  split at hQ
  · rename_i hc; simp [hc]; exact fo0 hQ
  · rename_i hc; simp [hc]; exact fox0 hQ

def sp_moment_of : DSp := sp1 fun a G Q E => ∃ T, tyN a G = some T ∧ (if (isWtD a) = true then Q (.tup [a, .tup []]) G else E "NoWeight" [] G)
abbrev s_moment_of : Stmt := topS 32
abbrev N_moment_of : List Str := ["weight"]
theorem sc_moment_of : FnScope N_moment_of ["weight"] (defScope s_moment_of) := ⟨rfl, rfl, rfl, by decide +kernel, rfl, by decide +kernel, by decide +kernel⟩
theorem ok_moment_of (F : FunH K mg "moment_of" s_moment_of) (T : Tx K mg) (h_want_weight : Has P w K mg base 3 "want_weight" 1 [] sp_want_weight) : Has P w K mg base 4 "moment_of" 1 [] sp_moment_of := by
  refine Has.ofF F sc_moment_of (fun _ _ _ _ _ _ us hl => match us, hl with | [_], _ => rfl) len1 fun f cdv A outer s H E ds G Q Ed B hp h => ⟨_, (s_cons (s_expr (d_call h_want_weight B (a_cons (d_var 0) a_nil)))
 (s_one (s_ret (d_tup (a_cons (d_var 0) (a_cons (d_tup a_nil) a_nil)))))), ?_⟩

  obtain ⟨a, rfl, T', hT, hQ⟩ := sp1_ex h
  simp only [dSeq, dNext, dRet, dRetN, dIfS, dDrop, dAsg, gdName, gdTup, gdNil, gdCons, dPar, dVar, dC, dOp, dCB, dCall, dCons, dNil, dTup, dLst, dB, dNot, dTru, dAnd, dOr, dAndV, dOrV, dNotV, dIf, dChain, dNeg, startD, List.map, List.length, List.replicate, List.append, List.cons_append, List.nil_append, List.append_nil, List.getElem?_cons_zero, List.getElem?_cons_succ, List.set_cons_zero, List.set_cons_succ, List.set_nil, Nat.sub_self, Nat.add_one_sub_one, Nat.reduceAdd, Nat.reduceSub, List.replicate_zero, List.replicate_succ, ixD_tup0, ixD_tup1, ixD_enc0, ixD_enc1, two_le_size, true_and, subD, modD, divD, powD, ltD, leD, gtD, geD, dLc, dFor, dYes, dRaise, dMt, dMt0, dSl, dPart, dNoPart, dFmt, dJoined, dJs, dOrT, forD, diSeq, diRng1, diRng2, diEnum, diZip2, diZip3, dWhile, dLenSet, bindP, bindPs, wipeD, dListRng, gdStar, gdSub, List.map_cons, List.map_nil, eqD_ii, eqD_ss, eqD_bb, neD_ii, neD_ss, neD_bb, truD_bl, truD_int, truD_non, truD_str, truD_tup, truD_rol, isB_bl, walkD_tup, walkD_rol, walkD_str, lenD_str, lenD_tupE, lenD_rolE, rdI_ii, addD_ii, addD_ss, addD_tt, mulD_ii, absD_i, maxD_ii, minD_ii, divmodD_ii, strD_i, intD_s, isND_nn, zero_le_size, List.length_cons, List.length_nil, sp_want_weight, sp1]
  refine ⟨T', hT, ?_⟩
  split at hQ
  · rename_i hc; simp [hc]; exact fo0 hQ
  · rename_i hc; simp [hc]; exact fox0 hQ

def sp_is_seat : DSp := sp1 fun a G Q _ => ∃ s : List Nat × Rat, a = encS s ∧ Sm s.2 ∧ s.1.length ≤ sizeLine ∧ Q (.bl (decide (okNm s.1))) G
abbrev s_is_seat : Stmt := topS 30
abbrev N_is_seat : List Str := ["thing", "person", "owed"]
theorem sc_is_seat : FnScope N_is_seat ["thing"] (defScope s_is_seat) := ⟨rfl, rfl, rfl, by decide +kernel, rfl, by decide +kernel, by decide +kernel⟩
theorem ok_is_seat (F : FunH K mg "is_seat" s_is_seat) (T : Tx K mg) (h_is_part : Has P w K mg base 3 "is_part" 1 [] sp_is_part) (h_is_name : Has P w K mg base 1 "is_name" 1 [] sp_is_name) : Has P w K mg base 4 "is_seat" 1 [] sp_is_seat := by
  refine Has.ofF F sc_is_seat (fun _ _ _ _ _ _ us hl => match us, hl with | [_], _ => rfl) len1 fun f cdv A outer s H E ds G Q Ed B hp h => ⟨_, (s_cons (s_if (PWd.t (d_or (d_tnot (d_ttru (d_callB c_isi T.b.isinstance boot_isinstance (a_cons (d_var 0) (a_cons (d_ty T.b.tuple boot_tuple) a_nil))))) (d_or1 (d_tcmp (o_ne B.hu) (d_callB c_len T.b.len boot_len (a_cons (d_var 0) a_nil)) d_int)))) (s_one (s_ret d_bl)) s_nil)
 (s_cons (s_asg (d_var 0) (g_tup (n := 2) B.hc (gs_cons (g_name (i := 1) sc_is_seat.nd) (gs_cons (g_name (i := 2) sc_is_seat.nd) gs_nil))))
 (s_one (s_ret (d_andV (d_orV (d_call h_is_name B (a_cons (d_var 1) a_nil)) (d_one (d_andV (d_callB c_isi T.b.isinstance boot_isinstance (a_cons (d_var 1) (a_cons (d_ty T.b.str boot_str) a_nil))) (d_one (d_cmp (o_eq B.hu) (d_var 1) (d_gc T.g_EMPTY)))))) (d_one (d_call h_is_part B (a_cons (d_var 2) a_nil)))))))), ?_⟩

  obtain ⟨a, rfl, ⟨n, q⟩, rfl, hq, hz, hQ⟩ := sp1_ex h
  simp only [dSeq, dNext, dRet, dRetN, dIfS, dDrop, dAsg, gdName, gdTup, gdNil, gdCons, dPar, dVar, dC, dOp, dCB, dCall, dCons, dNil, dTup, dLst, dB, dNot, dTru, dAnd, dOr, dAndV, dOrV, dNotV, dIf, dChain, dNeg, startD, List.map, List.length, List.replicate, List.append, List.cons_append, List.nil_append, List.append_nil, List.getElem?_cons_zero, List.getElem?_cons_succ, List.set_cons_zero, List.set_cons_succ, List.set_nil, Nat.sub_self, Nat.add_one_sub_one, Nat.reduceAdd, Nat.reduceSub, List.replicate_zero, List.replicate_succ, ixD_tup0, ixD_tup1, ixD_enc0, ixD_enc1, two_le_size, true_and, subD, modD, divD, powD, ltD, leD, gtD, geD, dLc, dFor, dYes, dRaise, dMt, dMt0, dSl, dPart, dNoPart, dFmt, dJoined, dJs, dOrT, forD, diSeq, diRng1, diRng2, diEnum, diZip2, diZip3, dWhile, dLenSet, bindP, bindPs, wipeD, dListRng, gdStar, gdSub, List.map_cons, List.map_nil, eqD_ii, eqD_ss, eqD_bb, neD_ii, neD_ss, neD_bb, truD_bl, truD_int, truD_non, truD_str, truD_tup, truD_rol, isB_bl, walkD_tup, walkD_rol, walkD_str, lenD_str, lenD_tupE, lenD_rolE, rdI_ii, addD_ii, addD_ss, addD_tt, mulD_ii, absD_i, maxD_ii, minD_ii, divmodD_ii, strD_i, intD_s, isND_nn, zero_le_size, List.length_cons, List.length_nil, encS, isiD, sp_is_name, sp_is_part, sp1]
  refine ⟨by simp, _, rfl, ?_⟩
  simp only [isN, List.length_cons, List.length_nil]
  refine ⟨_, rfl, fun z e => by cases e; rw [tx_length]; exact hz, ?_⟩
  try simp only [dSeq, dNext, dRet, dRetN, dIfS, dDrop, dAsg, gdName, gdTup, gdNil, gdCons, dPar, dVar, dC, dOp, dCB, dCall, dCons, dNil, dTup, dLst, dB, dNot, dTru, dAnd, dOr, dAndV, dOrV, dNotV, dIf, dChain, dNeg, startD, List.map, List.length, List.replicate, List.append, List.cons_append, List.nil_append, List.append_nil, List.getElem?_cons_zero, List.getElem?_cons_succ, List.set_cons_zero, List.set_cons_succ, List.set_nil, Nat.sub_self, Nat.add_one_sub_one, Nat.reduceAdd, Nat.reduceSub, List.replicate_zero, List.replicate_succ, ixD_tup0, ixD_tup1, ixD_enc0, ixD_enc1, two_le_size, true_and, subD, modD, divD, powD, ltD, leD, gtD, geD, dLc, dFor, dYes, dRaise, dMt, dMt0, dSl, dPart, dNoPart, dFmt, dJoined, dJs, dOrT, forD, diSeq, diRng1, diRng2, diEnum, diZip2, diZip3, dWhile, dLenSet, bindP, bindPs, wipeD, dListRng, gdStar, gdSub, List.map_cons, List.map_nil, eqD_ii, eqD_ss, eqD_bb, neD_ii, neD_ss, neD_bb, truD_bl, truD_int, truD_non, truD_str, truD_tup, truD_rol, isB_bl, walkD_tup, walkD_rol, walkD_str, lenD_str, lenD_tupE, lenD_rolE, rdI_ii, addD_ii, addD_ss, addD_tt, mulD_ii, absD_i, maxD_ii, minD_ii, divmodD_ii, strD_i, intD_s, isND_nn, zero_le_size, List.length_cons, List.length_nil, isiD]
  rw [show isNmD (D.str (tx n)) = decide (nmOk n) from rfl]
  by_cases h1 : nmOk n
  · have h2 : okNm n := h1.2
    simp [h1]
    refine ⟨q, rfl, hq, ?_⟩
    simp [h2] at hQ
    exact fo0 hQ
  · simp [h1, isN, tyN]
    by_cases h0 : n = []
    · subst h0
      simp [lit_empty]
      refine ⟨q, rfl, hq, ?_⟩
      exact fo0 (by simpa [okNm] using hQ)
    · have : ¬ okNm n := fun z => h1 ⟨h0, z⟩
      have h3 : ¬ (tx n = tx []) := fun z => h0 (tx_ne.mp z)
      simp [lit_empty, h3]
      simp [this] at hQ
      exact fo0 hQ

def sp_owing : DSp := sp1 fun a G Q _ => ∃ W seats, a = encM W seats ∧ seats.length ≤ sizeLine ∧ Q (.tup ((owL seats).map encQ)) G
abbrev s_owing : Stmt := topS 33
abbrev N_owing : List Str := ["moment", "person", "owed"]
theorem sc_owing : FnScope N_owing ["moment"] (defScope s_owing) := ⟨rfl, rfl, rfl, by decide +kernel, rfl, by decide +kernel, by decide +kernel⟩
theorem ok_owing (F : FunH K mg "owing" s_owing) (T : Tx K mg)  : Has P w K mg base 1 "owing" 1 [] sp_owing := by
  refine Has.ofF F sc_owing (fun _ _ _ _ _ _ us hl => match us, hl with | [_], _ => rfl) len1 fun f cdv A outer s H E ds G Q Ed B hp h => ⟨_, (s_one (s_ret (d_callTy c_tuple T.b.tuple boot_tuple (a_cons (d_lc (own := [("person", 1), ("owed", 2)]) (p := .tp [.nm 1, .nm 2]) B.hc sc_owing.nd (blkOk_by (own := [("person", 1), ("owed", 2)]) (N := N_owing) (by kernel_rfl)) (by decide) (i_seq (d_ix (d_var 0) d_int)) (fun s1 H1 C1 cl1 fp1 => (p_tup (B.blk s1 H1 _ _ fp1).hc (ps_cons' (p_name (i := 1) sc_owing.nd) (ps_cons' (p_name (i := 2) sc_owing.nd) ps_nil')))) (fun s1 H1 C1 cl1 fp1 => ts_nil) (fun s1 H1 C1 cl1 fp1 => (d_var 2))) a_nil)))), ?_⟩

  obtain ⟨a, rfl, W, seats, rfl, hz, hQ⟩ := sp1_ex h
  simp only [dSeq, dNext, dRet, dRetN, dIfS, dDrop, dAsg, gdName, gdTup, gdNil, gdCons, dPar, dVar, dC, dOp, dCB, dCall, dCons, dNil, dTup, dLst, dB, dNot, dTru, dAnd, dOr, dAndV, dOrV, dNotV, dIf, dChain, dNeg, startD, List.map, List.length, List.replicate, List.append, List.cons_append, List.nil_append, List.append_nil, List.getElem?_cons_zero, List.getElem?_cons_succ, List.set_cons_zero, List.set_cons_succ, List.set_nil, Nat.sub_self, Nat.add_one_sub_one, Nat.reduceAdd, Nat.reduceSub, List.replicate_zero, List.replicate_succ, ixD_tup0, ixD_tup1, ixD_enc0, ixD_enc1, two_le_size, true_and, subD, modD, divD, powD, ltD, leD, gtD, geD, dLc, dFor, dYes, dRaise, dMt, dMt0, dSl, dPart, dNoPart, dFmt, dJoined, dJs, dOrT, forD, diSeq, diRng1, diRng2, diEnum, diZip2, diZip3, dWhile, dLenSet, bindP, bindPs, wipeD, dListRng, gdStar, gdSub, List.map_cons, List.map_nil, eqD_ii, eqD_ss, eqD_bb, neD_ii, neD_ss, neD_bb, truD_bl, truD_int, truD_non, truD_str, truD_tup, truD_rol, isB_bl, walkD_tup, walkD_rol, walkD_str, lenD_str, lenD_tupE, lenD_rolE, rdI_ii, addD_ii, addD_ss, addD_tt, mulD_ii, absD_i, maxD_ii, minD_ii, divmodD_ii, strD_i, intD_s, isND_nn, zero_le_size, List.length_cons, List.length_nil, encM]
  intro p hp
  refine lcD_map1 (fun s => encQ s.2) hp hz (fun _ _ _ => trivial) (fun s hs => ⟨_, rfl, fun acc G' N L h => ?_⟩) (fun G' L => ?_)
  · try simp only [dSeq, dNext, dRet, dRetN, dIfS, dDrop, dAsg, gdName, gdTup, gdNil, gdCons, dPar, dVar, dC, dOp, dCB, dCall, dCons, dNil, dTup, dLst, dB, dNot, dTru, dAnd, dOr, dAndV, dOrV, dNotV, dIf, dChain, dNeg, startD, List.map, List.length, List.replicate, List.append, List.cons_append, List.nil_append, List.append_nil, List.getElem?_cons_zero, List.getElem?_cons_succ, List.set_cons_zero, List.set_cons_succ, List.set_nil, Nat.sub_self, Nat.add_one_sub_one, Nat.reduceAdd, Nat.reduceSub, List.replicate_zero, List.replicate_succ, ixD_tup0, ixD_tup1, ixD_enc0, ixD_enc1, two_le_size, true_and, subD, modD, divD, powD, ltD, leD, gtD, geD, dLc, dFor, dYes, dRaise, dMt, dMt0, dSl, dPart, dNoPart, dFmt, dJoined, dJs, dOrT, forD, diSeq, diRng1, diRng2, diEnum, diZip2, diZip3, dWhile, dLenSet, bindP, bindPs, wipeD, dListRng, gdStar, gdSub, List.map_cons, List.map_nil, eqD_ii, eqD_ss, eqD_bb, neD_ii, neD_ss, neD_bb, truD_bl, truD_int, truD_non, truD_str, truD_tup, truD_rol, isB_bl, walkD_tup, walkD_rol, walkD_str, lenD_str, lenD_tupE, lenD_rolE, rdI_ii, addD_ii, addD_ss, addD_tt, mulD_ii, absD_i, maxD_ii, minD_ii, divmodD_ii, strD_i, intD_s, isND_nn, zero_le_size, List.length_cons, List.length_nil]
    exact h _ L
  · refine tupleD_lst L.at ?_
    exact Fo.mk ((Less.new (.refl G) hp).trans L) (by simpa [owL, Function.comp_def] using hQ)

def sp_persons : DSp := sp1 fun a G Q _ => ∃ W seats, a = encM W seats ∧ seats.length ≤ sizeLine ∧ ∀ p, G p = none → Q (.ref p) (gupd G p (.lst ((nms seats).map fun n => .str (tx n))))
abbrev s_persons : Stmt := topS 34
abbrev N_persons : List Str := ["moment", "person", "owed"]
theorem sc_persons : FnScope N_persons ["moment"] (defScope s_persons) := ⟨rfl, rfl, rfl, by decide +kernel, rfl, by decide +kernel, by decide +kernel⟩
theorem ok_persons (F : FunH K mg "persons" s_persons) (T : Tx K mg)  : Has P w K mg base 1 "persons" 1 [] sp_persons := by
  refine Has.ofF F sc_persons (fun _ _ _ _ _ _ us hl => match us, hl with | [_], _ => rfl) len1 fun f cdv A outer s H E ds G Q Ed B hp h => ⟨_, (s_one (s_ret (d_lc (own := [("person", 1), ("owed", 2)]) (p := .tp [.nm 1, .nm 2]) B.hc sc_persons.nd (blkOk_by (own := [("person", 1), ("owed", 2)]) (N := N_persons) (by kernel_rfl)) (by decide) (i_seq (d_ix (d_var 0) d_int)) (fun s1 H1 C1 cl1 fp1 => (p_tup (B.blk s1 H1 _ _ fp1).hc (ps_cons' (p_name (i := 1) sc_persons.nd) (ps_cons' (p_name (i := 2) sc_persons.nd) ps_nil')))) (fun s1 H1 C1 cl1 fp1 => (ts_one (d_tcmp (o_ne (B.blk s1 H1 _ _ fp1).hu) (d_var 1) (d_gc T.g_EMPTY)))) (fun s1 H1 C1 cl1 fp1 => (d_var 1))))), ?_⟩

  obtain ⟨a, rfl, W, seats, rfl, hz, hQ⟩ := sp1_ex h
  simp only [dSeq, dNext, dRet, dRetN, dIfS, dDrop, dAsg, gdName, gdTup, gdNil, gdCons, dPar, dVar, dC, dOp, dCB, dCall, dCons, dNil, dTup, dLst, dB, dNot, dTru, dAnd, dOr, dAndV, dOrV, dNotV, dIf, dChain, dNeg, startD, List.map, List.length, List.replicate, List.append, List.cons_append, List.nil_append, List.append_nil, List.getElem?_cons_zero, List.getElem?_cons_succ, List.set_cons_zero, List.set_cons_succ, List.set_nil, Nat.sub_self, Nat.add_one_sub_one, Nat.reduceAdd, Nat.reduceSub, List.replicate_zero, List.replicate_succ, ixD_tup0, ixD_tup1, ixD_enc0, ixD_enc1, two_le_size, true_and, subD, modD, divD, powD, ltD, leD, gtD, geD, dLc, dFor, dYes, dRaise, dMt, dMt0, dSl, dPart, dNoPart, dFmt, dJoined, dJs, dOrT, forD, diSeq, diRng1, diRng2, diEnum, diZip2, diZip3, dWhile, dLenSet, bindP, bindPs, wipeD, dListRng, gdStar, gdSub, List.map_cons, List.map_nil, eqD_ii, eqD_ss, eqD_bb, neD_ii, neD_ss, neD_bb, truD_bl, truD_int, truD_non, truD_str, truD_tup, truD_rol, isB_bl, walkD_tup, walkD_rol, walkD_str, lenD_str, lenD_tupE, lenD_rolE, rdI_ii, addD_ii, addD_ss, addD_tt, mulD_ii, absD_i, maxD_ii, minD_ii, divmodD_ii, strD_i, intD_s, isND_nn, zero_le_size, List.length_cons, List.length_nil, encM]
  intro p hp
  refine lcD_map (fun s => if s.1 = [] then none else some (D.str (tx s.1))) hp hz (fun _ _ _ => trivial) (fun s hs => ⟨_, rfl, fun acc G' N M L h1 h2 => ?_⟩) (fun G' L => ?_)
  · simp only [dSeq, dNext, dRet, dRetN, dIfS, dDrop, dAsg, gdName, gdTup, gdNil, gdCons, dPar, dVar, dC, dOp, dCB, dCall, dCons, dNil, dTup, dLst, dB, dNot, dTru, dAnd, dOr, dAndV, dOrV, dNotV, dIf, dChain, dNeg, startD, List.map, List.length, List.replicate, List.append, List.cons_append, List.nil_append, List.append_nil, List.getElem?_cons_zero, List.getElem?_cons_succ, List.set_cons_zero, List.set_cons_succ, List.set_nil, Nat.sub_self, Nat.add_one_sub_one, Nat.reduceAdd, Nat.reduceSub, List.replicate_zero, List.replicate_succ, ixD_tup0, ixD_tup1, ixD_enc0, ixD_enc1, two_le_size, true_and, subD, modD, divD, powD, ltD, leD, gtD, geD, dLc, dFor, dYes, dRaise, dMt, dMt0, dSl, dPart, dNoPart, dFmt, dJoined, dJs, dOrT, forD, diSeq, diRng1, diRng2, diEnum, diZip2, diZip3, dWhile, dLenSet, bindP, bindPs, wipeD, dListRng, gdStar, gdSub, List.map_cons, List.map_nil, eqD_ii, eqD_ss, eqD_bb, neD_ii, neD_ss, neD_bb, truD_bl, truD_int, truD_non, truD_str, truD_tup, truD_rol, isB_bl, walkD_tup, walkD_rol, walkD_str, lenD_str, lenD_tupE, lenD_rolE, rdI_ii, addD_ii, addD_ss, addD_tt, mulD_ii, absD_i, maxD_ii, minD_ii, divmodD_ii, strD_i, intD_s, isND_nn, zero_le_size, List.length_cons, List.length_nil, encS]
    rw [lit_empty]
    by_cases h0 : s.1 = []
    · simp [h0]; exact h2 _ (by simp [h0]) L
    · have : ¬ (tx s.1 = tx []) := fun z => h0 (tx_ne.mp z)
      simp [this]; exact h1 _ _ (by simp [h0]) L
  · rw [filter_nms] at L
    exact Fo.mk L (hQ p hp)

def sp_is_moment : DSp := sp1 fun a G Q _ => ∃ W seats, a = encM W seats ∧ (∀ s ∈ seats, Sm s.2 ∧ s.1.length ≤ sizeLine) ∧ seats.length < 4000 ∧ Rok (owL seats) ∧ W.natAbs < 2 ^ 1000 ∧ Q (.bl (decide (Good W seats))) G
abbrev s_is_moment : Stmt := topS 31
abbrev N_is_moment : List Str := ["thing", "weight", "seats", "seat", "there"]
theorem sc_is_moment : FnScope N_is_moment ["thing"] (defScope s_is_moment) := ⟨rfl, rfl, rfl, by decide +kernel, rfl, by decide +kernel, by decide +kernel⟩
theorem ok_is_moment (F : FunH K mg "is_moment" s_is_moment) (T : Tx K mg) (h_is_within : Has P w K mg base 6 "is_within" 2 [] sp_is_within) (h_is_weight : Has P w K mg base 2 "is_weight" 1 [] sp_is_weight) (h_is_seat : Has P w K mg base 4 "is_seat" 1 [] sp_is_seat) (h_owing : Has P w K mg base 1 "owing" 1 [] sp_owing) (h_persons : Has P w K mg base 1 "persons" 1 [] sp_persons) : Has P w K mg base 7 "is_moment" 1 [] sp_is_moment := by
  refine Has.ofF F sc_is_moment (fun _ _ _ _ _ _ us hl => match us, hl with | [_], _ => rfl) len1 fun f cdv A outer s H E ds G Q Ed B hp h => ⟨_, (s_cons (s_if (PWd.t (d_or (d_tnot (d_ttru (d_callB c_isi T.b.isinstance boot_isinstance (a_cons (d_var 0) (a_cons (d_ty T.b.tuple boot_tuple) a_nil))))) (d_or1 (d_tcmp (o_ne B.hu) (d_callB c_len T.b.len boot_len (a_cons (d_var 0) a_nil)) d_int)))) (s_one (s_ret d_bl)) s_nil)
 (s_cons (s_asg (d_var 0) (g_tup (n := 2) B.hc (gs_cons (g_name (i := 1) sc_is_moment.nd) (gs_cons (g_name (i := 2) sc_is_moment.nd) gs_nil))))
 (s_cons (s_if (PWd.t (d_or (d_tnot (d_ttru (d_call h_is_weight B (a_cons (d_var 1) a_nil)))) (d_or (d_tnot (d_ttru (d_callB c_isi T.b.isinstance boot_isinstance (a_cons (d_var 2) (a_cons (d_ty T.b.tuple boot_tuple) a_nil))))) (d_or1 (d_tnot (d_ttru (d_callB (c_all B.hc) T.b.all boot_all (a_cons (d_lc (own := [("seat", 3)]) (p := .nm 3) B.hc sc_is_moment.nd (blkOk_by (own := [("seat", 3)]) (N := N_is_moment) (by kernel_rfl)) (by decide) (i_seq (d_var 2)) (fun s1 H1 C1 cl1 fp1 => (p_name (i := 3) sc_is_moment.nd)) (fun s1 H1 C1 cl1 fp1 => ts_nil) (fun s1 H1 C1 cl1 fp1 => (d_call h_is_seat (B.blk s1 H1 _ _ fp1) (a_cons (d_var 3) a_nil)))) a_nil)))))))) (s_one (s_ret d_bl)) s_nil)
 (s_cons (s_set 4 sc_is_moment.nd (d_call h_persons B (a_cons (d_var 0) a_nil)))
 (s_one (s_ret (d_andV (d_cmp (o_eq B.hu) (d_lenSet B.hc T.b.len T.b.set (d_var 4)) (d_callB c_len T.b.len boot_len (a_cons (d_var 4) a_nil))) (d_one (d_call h_is_within B (a_cons (d_var 1) (a_cons (d_call h_owing B (a_cons (d_var 0) a_nil)) a_nil))))))))))), ?_⟩

  obtain ⟨a, rfl, W, seats, rfl, hs, hz, hr, hW, hQ⟩ := sp1_ex h
  have hz2 : seats.length ≤ sizeLine := by rw [sizeLine_eq]; omega
  simp only [dSeq, dNext, dRet, dRetN, dIfS, dDrop, dAsg, gdName, gdTup, gdNil, gdCons, dPar, dVar, dC, dOp, dCB, dCall, dCons, dNil, dTup, dLst, dB, dNot, dTru, dAnd, dOr, dAndV, dOrV, dNotV, dIf, dChain, dNeg, startD, List.map, List.length, List.replicate, List.append, List.cons_append, List.nil_append, List.append_nil, List.getElem?_cons_zero, List.getElem?_cons_succ, List.set_cons_zero, List.set_cons_succ, List.set_nil, Nat.sub_self, Nat.add_one_sub_one, Nat.reduceAdd, Nat.reduceSub, List.replicate_zero, List.replicate_succ, ixD_tup0, ixD_tup1, ixD_enc0, ixD_enc1, two_le_size, true_and, subD, modD, divD, powD, ltD, leD, gtD, geD, dLc, dFor, dYes, dRaise, dMt, dMt0, dSl, dPart, dNoPart, dFmt, dJoined, dJs, dOrT, forD, diSeq, diRng1, diRng2, diEnum, diZip2, diZip3, dWhile, dLenSet, bindP, bindPs, wipeD, dListRng, gdStar, gdSub, List.map_cons, List.map_nil, eqD_ii, eqD_ss, eqD_bb, neD_ii, neD_ss, neD_bb, truD_bl, truD_int, truD_non, truD_str, truD_tup, truD_rol, isB_bl, walkD_tup, walkD_rol, walkD_str, lenD_str, lenD_tupE, lenD_rolE, rdI_ii, addD_ii, addD_ss, addD_tt, mulD_ii, absD_i, maxD_ii, minD_ii, divmodD_ii, strD_i, intD_s, isND_nn, zero_le_size, List.length_cons, List.length_nil, encM, isiD, sp_is_weight, sp1]
  refine ⟨by simp, _, rfl, ?_⟩
  simp only [isN, List.length_cons, List.length_nil]
  refine ⟨_, rfl, ?_⟩
  rw [show isWtD (D.int W) = decide (1 ≤ W) from rfl]
  by_cases h1 : 1 ≤ W
  · simp [h1, tyN]
    intro p hp
    refine lcD_map1 (fun s => .bl (decide (okNm s.1))) hp hz2 (fun _ _ _ => trivial) (fun s hs' => ⟨_, rfl, fun acc G' N L h => ?_⟩) (fun G' L => ?_)
    · simp only [dSeq, dNext, dRet, dRetN, dIfS, dDrop, dAsg, gdName, gdTup, gdNil, gdCons, dPar, dVar, dC, dOp, dCB, dCall, dCons, dNil, dTup, dLst, dB, dNot, dTru, dAnd, dOr, dAndV, dOrV, dNotV, dIf, dChain, dNeg, startD, List.map, List.length, List.replicate, List.append, List.cons_append, List.nil_append, List.append_nil, List.getElem?_cons_zero, List.getElem?_cons_succ, List.set_cons_zero, List.set_cons_succ, List.set_nil, Nat.sub_self, Nat.add_one_sub_one, Nat.reduceAdd, Nat.reduceSub, List.replicate_zero, List.replicate_succ, ixD_tup0, ixD_tup1, ixD_enc0, ixD_enc1, two_le_size, true_and, subD, modD, divD, powD, ltD, leD, gtD, geD, dLc, dFor, dYes, dRaise, dMt, dMt0, dSl, dPart, dNoPart, dFmt, dJoined, dJs, dOrT, forD, diSeq, diRng1, diRng2, diEnum, diZip2, diZip3, dWhile, dLenSet, bindP, bindPs, wipeD, dListRng, gdStar, gdSub, List.map_cons, List.map_nil, eqD_ii, eqD_ss, eqD_bb, neD_ii, neD_ss, neD_bb, truD_bl, truD_int, truD_non, truD_str, truD_tup, truD_rol, isB_bl, walkD_tup, walkD_rol, walkD_str, lenD_str, lenD_tupE, lenD_rolE, rdI_ii, addD_ii, addD_ss, addD_tt, mulD_ii, absD_i, maxD_ii, minD_ii, divmodD_ii, strD_i, intD_s, isND_nn, zero_le_size, List.length_cons, List.length_nil, sp_is_seat, sp1]
      exact ⟨s, rfl, (hs s hs').1, (hs s hs').2, h _ L⟩
    · refine allD_at (bs := seats.map fun s => decide (okNm s.1)) (by simpa [Function.comp_def] using L.at) ?_
      have L1 := (Less.new (.refl G) hp).trans L
      have e : (seats.map fun s => decide (okNm s.1)).all id = decide (∀ s ∈ seats, okNm s.1) := by
        rw [Bool.eq_iff_iff]
        simp
      rw [e]
      by_cases h2 : ∀ s ∈ seats, okNm s.1
      · simp only [dSeq, dNext, dRet, dRetN, dIfS, dDrop, dAsg, gdName, gdTup, gdNil, gdCons, dPar, dVar, dC, dOp, dCB, dCall, dCons, dNil, dTup, dLst, dB, dNot, dTru, dAnd, dOr, dAndV, dOrV, dNotV, dIf, dChain, dNeg, startD, List.map, List.length, List.replicate, List.append, List.cons_append, List.nil_append, List.append_nil, List.getElem?_cons_zero, List.getElem?_cons_succ, List.set_cons_zero, List.set_cons_succ, List.set_nil, Nat.sub_self, Nat.add_one_sub_one, Nat.reduceAdd, Nat.reduceSub, List.replicate_zero, List.replicate_succ, ixD_tup0, ixD_tup1, ixD_enc0, ixD_enc1, two_le_size, true_and, subD, modD, divD, powD, ltD, leD, gtD, geD, dLc, dFor, dYes, dRaise, dMt, dMt0, dSl, dPart, dNoPart, dFmt, dJoined, dJs, dOrT, forD, diSeq, diRng1, diRng2, diEnum, diZip2, diZip3, dWhile, dLenSet, bindP, bindPs, wipeD, dListRng, gdStar, gdSub, List.map_cons, List.map_nil, eqD_ii, eqD_ss, eqD_bb, neD_ii, neD_ss, neD_bb, truD_bl, truD_int, truD_non, truD_str, truD_tup, truD_rol, isB_bl, walkD_tup, walkD_rol, walkD_str, lenD_str, lenD_tupE, lenD_rolE, rdI_ii, addD_ii, addD_ss, addD_tt, mulD_ii, absD_i, maxD_ii, minD_ii, divmodD_ii, strD_i, intD_s, isND_nn, zero_le_size, List.length_cons, List.length_nil]
        rw [decide_eq_true h2]
        simp only [Bool.not_true, Bool.false_eq_true, if_false, sp_persons, sp1]
        refine ⟨W, seats, rfl, hz2, fun q hq => ⟨(nms seats).map nmK, ?_, ?_, ?_⟩⟩
        · show gupd G' q _ q = _
          rw [gupd_same]; simp [nmK, kD, Function.comp_def]
        · have := nms_length seats; simp; omega
        · refine lenD_seq (G := gupd G' q _) (x := .ref q) (ds := (nms seats).map fun n => .str (tx n)) gupd_same ?_
          simp only [dSeq, dNext, dRet, dRetN, dIfS, dDrop, dAsg, gdName, gdTup, gdNil, gdCons, dPar, dVar, dC, dOp, dCB, dCall, dCons, dNil, dTup, dLst, dB, dNot, dTru, dAnd, dOr, dAndV, dOrV, dNotV, dIf, dChain, dNeg, startD, List.map, List.length, List.replicate, List.append, List.cons_append, List.nil_append, List.append_nil, List.getElem?_cons_zero, List.getElem?_cons_succ, List.set_cons_zero, List.set_cons_succ, List.set_nil, Nat.sub_self, Nat.add_one_sub_one, Nat.reduceAdd, Nat.reduceSub, List.replicate_zero, List.replicate_succ, ixD_tup0, ixD_tup1, ixD_enc0, ixD_enc1, two_le_size, true_and, subD, modD, divD, powD, ltD, leD, gtD, geD, dLc, dFor, dYes, dRaise, dMt, dMt0, dSl, dPart, dNoPart, dFmt, dJoined, dJs, dOrT, forD, diSeq, diRng1, diRng2, diEnum, diZip2, diZip3, dWhile, dLenSet, bindP, bindPs, wipeD, dListRng, gdStar, gdSub, List.map_cons, List.map_nil, eqD_ii, eqD_ss, eqD_bb, neD_ii, neD_ss, neD_bb, truD_bl, truD_int, truD_non, truD_str, truD_tup, truD_rol, isB_bl, walkD_tup, walkD_rol, walkD_str, lenD_str, lenD_tupE, lenD_rolE, rdI_ii, addD_ii, addD_ss, addD_tt, mulD_ii, absD_i, maxD_ii, minD_ii, divmodD_ii, strD_i, intD_s, isND_nn, zero_le_size, List.length_cons, List.length_nil]
          have L2 := L1.new (o := .lst ((nms seats).map fun n => .str (tx n))) hq
          rw [List.length_map]
          have ed : decide (((cntK ((nms seats).map nmK).reverse : Nat) : Int) = ((nms seats).length : Nat)) = decide (nms seats).Nodup := by
            rw [decide_eq_decide, ← cnt_nms, Int.ofNat_inj]
          rw [ed]
          by_cases h3 : (nms seats).Nodup
          · simp only [h3, decide_true, if_true, sp_owing, sp1, sp_is_within, sp2]
            refine ⟨W, seats, rfl, hz2, W, owL seats, rfl, rfl, hr, by simp [owL]; omega, hW, ?_⟩
            have : decide (Good W seats) = decide (Fits W (owL seats)) := by
              rw [decide_eq_decide]; exact ⟨fun h => h.2.2.2, fun h => ⟨h1, h2, h3, h⟩⟩
            rw [this] at hQ
            exact Fo.mk L2 hQ
          · have : ¬ Good W seats := fun z => h3 z.2.2.1
            simp only [h3, decide_false, if_false, Bool.false_eq_true]
            rw [decide_eq_false this] at hQ
            exact Fo.mk L2 hQ
      · have : ¬ Good W seats := fun z => h2 z.2.1
        rw [decide_eq_false h2]
        rw [decide_eq_false this] at hQ
        simp only [dSeq, dNext, dRet, dRetN, dIfS, dDrop, dAsg, gdName, gdTup, gdNil, gdCons, dPar, dVar, dC, dOp, dCB, dCall, dCons, dNil, dTup, dLst, dB, dNot, dTru, dAnd, dOr, dAndV, dOrV, dNotV, dIf, dChain, dNeg, startD, List.map, List.length, List.replicate, List.append, List.cons_append, List.nil_append, List.append_nil, List.getElem?_cons_zero, List.getElem?_cons_succ, List.set_cons_zero, List.set_cons_succ, List.set_nil, Nat.sub_self, Nat.add_one_sub_one, Nat.reduceAdd, Nat.reduceSub, List.replicate_zero, List.replicate_succ, ixD_tup0, ixD_tup1, ixD_enc0, ixD_enc1, two_le_size, true_and, subD, modD, divD, powD, ltD, leD, gtD, geD, dLc, dFor, dYes, dRaise, dMt, dMt0, dSl, dPart, dNoPart, dFmt, dJoined, dJs, dOrT, forD, diSeq, diRng1, diRng2, diEnum, diZip2, diZip3, dWhile, dLenSet, bindP, bindPs, wipeD, dListRng, gdStar, gdSub, List.map_cons, List.map_nil, eqD_ii, eqD_ss, eqD_bb, neD_ii, neD_ss, neD_bb, truD_bl, truD_int, truD_non, truD_str, truD_tup, truD_rol, isB_bl, walkD_tup, walkD_rol, walkD_str, lenD_str, lenD_tupE, lenD_rolE, rdI_ii, addD_ii, addD_ss, addD_tt, mulD_ii, absD_i, maxD_ii, minD_ii, divmodD_ii, strD_i, intD_s, isND_nn, zero_le_size, List.length_cons, List.length_nil]
        simp
        exact Fo.mk L1 hQ
  · have : ¬ Good W seats := fun z => h1 z.1
    simp [h1]
    rw [decide_eq_false this] at hQ
    exact fo0 hQ

end
end Q
set_option maxHeartbeats 4000000
namespace Q
open PySem PySem.Spec PyProof.Rows L2

section
variable {P : Program} {w : World} {K : PySem.W.Frag} {mg : Str → Option Value} {base : Heap}
def sp_part_text : DSp := sp1 fun a G Q _ => ∃ q : Rat, a = encQ q ∧ SmK 1900 q ∧ Q (.str (tx (ptL q))) G
abbrev s_part_text : Stmt := topS 14
abbrev N_part_text : List Str := ["one", "above", "below"]
theorem sc_part_text : FnScope N_part_text ["one"] (defScope s_part_text) := ⟨rfl, rfl, rfl, by decide +kernel, rfl, by decide +kernel, by decide +kernel⟩
theorem ok_part_text (F : FunH K mg "part_text" s_part_text) (T : Tx K mg)  : Has P w K mg base 1 "part_text" 1 [] sp_part_text := by
  refine Has.ofF F sc_part_text (fun _ _ _ _ _ _ us hl => match us, hl with | [_], _ => rfl) len1 fun f cdv A outer s H E ds G Q Ed B hp h => ⟨_, (s_cons (s_asg (d_var 0) (g_tup (n := 2) B.hc (gs_cons (g_name (i := 1) sc_part_text.nd) (gs_cons (g_name (i := 2) sc_part_text.nd) gs_nil))))
 (s_one (s_ret (d_ifExp (d_tcmp (o_eq B.hu) (d_var 2) d_int) (d_callTy c_str T.b.str boot_str (a_cons (d_var 1) a_nil)) (d_joined (.cons (d_fmt (d_var 1)) (.cons (d_fmt (d_gc T.g_STROKE)) (.cons (d_fmt (d_var 2)) .nil)))))))), ?_⟩

  obtain ⟨a, rfl, q, rfl, hq, hQ⟩ := sp1_ex h
  have h1 : q.num.natAbs.log2 < 1920 := log_of hq.1 (by decide) (by decide)
  have h2 : (q.den : Int).natAbs.log2 < 1920 := log_of (k := 1900) (by simpa using hq.2) (by decide) (by decide)
  simp only [dSeq, dNext, dRet, dRetN, dIfS, dDrop, dAsg, gdName, gdTup, gdNil, gdCons, dPar, dVar, dC, dOp, dCB, dCall, dCons, dNil, dTup, dLst, dB, dNot, dTru, dAnd, dOr, dAndV, dOrV, dNotV, dIf, dChain, dNeg, startD, List.map, List.length, List.replicate, List.append, List.cons_append, List.nil_append, List.append_nil, List.getElem?_cons_zero, List.getElem?_cons_succ, List.set_cons_zero, List.set_cons_succ, List.set_nil, Nat.sub_self, Nat.add_one_sub_one, Nat.reduceAdd, Nat.reduceSub, List.replicate_zero, List.replicate_succ, ixD_tup0, ixD_tup1, ixD_enc0, ixD_enc1, two_le_size, true_and, subD, modD, divD, powD, ltD, leD, gtD, geD, dLc, dFor, dYes, dRaise, dMt, dMt0, dSl, dPart, dNoPart, dFmt, dJoined, dJs, dOrT, forD, diSeq, diRng1, diRng2, diEnum, diZip2, diZip3, dWhile, dLenSet, bindP, bindPs, wipeD, dListRng, gdStar, gdSub, List.map_cons, List.map_nil, eqD_ii, eqD_ss, eqD_bb, neD_ii, neD_ss, neD_bb, truD_bl, truD_int, truD_non, truD_str, truD_tup, truD_rol, isB_bl, walkD_tup, walkD_rol, walkD_str, lenD_str, lenD_tupE, lenD_rolE, rdI_ii, addD_ii, addD_ss, addD_tt, mulD_ii, absD_i, maxD_ii, minD_ii, divmodD_ii, strD_i, intD_s, isND_nn, zero_le_size, List.length_cons, List.length_nil, encQ, fmtD, lit_stroke]
  by_cases hd : q.den = 1
  · simp only [hd, Int.natCast_one, decide_true, if_true]
    refine ⟨h1, ?_⟩
    have e : ptL q = numZ q.num := by unfold ptL; rw [if_pos hd, List.append_nil]
    rw [e, ← tx_int] at hQ
    exact fo0 hQ
  · have hd' : ¬ ((q.den : Int) = 1) := by omega
    simp only [hd', decide_false, if_false, Bool.false_eq_true]
    have hl := ptL_len (q := q) (k := 640) (by decide) (hq.mono (by decide))
    rw [tx_int, tx_int, empty_tx]
    have e3 : numZ (q.den : Int) = TL.numL q.den := by unfold numZ; rw [if_neg (by omega)]; rfl
    rw [e3]
    simp only [tx_app, tx_length, List.nil_append]
    have e : ptL q = numZ q.num ++ 47 :: TL.numL q.den := by unfold ptL; rw [if_neg hd]
    rw [e] at hl hQ
    rw [List.length_append, List.length_cons] at hl
    refine ⟨h1, by rw [sizeLine_eq]; omega, by rw [sizeLine_eq]; decide, by rw [List.length_append, sizeLine_eq]; simp; omega, h2, by simp [sizeLine_eq]; omega, ?_⟩
    refine fo0 ?_
    simpa using hQ

def sp_number_read : DSp := sp1 fun a G Q E => ∃ l, a = .str (tx l) ∧ l.length ≤ 600 ∧ (if okN l then Q (.int (NumText.digitsVal l : Nat)) G else E "NoText" [] G)
abbrev s_number_read : Stmt := topS 15
abbrev N_number_read : List Str := ["word", "sign"]
theorem sc_number_read : FnScope N_number_read ["word"] (defScope s_number_read) := ⟨rfl, rfl, rfl, by decide +kernel, rfl, by decide +kernel, by decide +kernel⟩
theorem ok_number_read (F : FunH K mg "number_read" s_number_read) (T : Tx K mg)  : Has P w K mg base 1 "number_read" 1 [] sp_number_read := by
  refine Has.ofF F sc_number_read (fun _ _ _ _ _ _ us hl => match us, hl with | [_], _ => rfl) len1 fun f cdv A outer s H E ds G Q Ed B hp h => ⟨_, (s_cons (s_if (PWd.t (d_or (d_tcmp (o_eq B.hu) (d_var 0) d_str) (d_or (d_tnot (d_ttru (d_callB (c_all B.hc) T.b.all boot_all (a_cons (d_lc (own := [("sign", 1)]) (p := .nm 1) B.hc sc_number_read.nd (blkOk_by (own := [("sign", 1)]) (N := N_number_read) (by kernel_rfl)) (by decide) (i_seq (d_var 0)) (fun s1 H1 C1 cl1 fp1 => (p_name (i := 1) sc_number_read.nd)) (fun s1 H1 C1 cl1 fp1 => ts_nil) (fun s1 H1 C1 cl1 fp1 => (d_cmp o_in (d_var 1) (d_gc T.g_FIGURES)))) a_nil)))) (d_or1 (d_tcmp o_gt (d_callB c_len T.b.len boot_len (a_cons (d_var 0) a_nil)) d_int))))) (s_one (s_raise T.x_NoText B)) s_nil)
 (s_one (s_ret (d_callTy c_int T.b.int boot_int (a_cons (d_var 0) a_nil))))), ?_⟩

  obtain ⟨a, rfl, l, rfl, hz, hQ⟩ := sp1_ex h
  have hl : l.length ≤ sizeLine := by rw [sizeLine_eq]; omega
  simp only [dSeq, dNext, dRet, dRetN, dIfS, dDrop, dAsg, gdName, gdTup, gdNil, gdCons, dPar, dVar, dC, dOp, dCB, dCall, dCons, dNil, dTup, dLst, dB, dNot, dTru, dAnd, dOr, dAndV, dOrV, dNotV, dIf, dChain, dNeg, startD, List.map, List.length, List.replicate, List.append, List.cons_append, List.nil_append, List.append_nil, List.getElem?_cons_zero, List.getElem?_cons_succ, List.set_cons_zero, List.set_cons_succ, List.set_nil, Nat.sub_self, Nat.add_one_sub_one, Nat.reduceAdd, Nat.reduceSub, List.replicate_zero, List.replicate_succ, ixD_tup0, ixD_tup1, ixD_enc0, ixD_enc1, two_le_size, true_and, subD, modD, divD, powD, ltD, leD, gtD, geD, dLc, dFor, dYes, dRaise, dMt, dMt0, dSl, dPart, dNoPart, dFmt, dJoined, dJs, dOrT, forD, diSeq, diRng1, diRng2, diEnum, diZip2, diZip3, dWhile, dLenSet, bindP, bindPs, wipeD, dListRng, gdStar, gdSub, List.map_cons, List.map_nil, eqD_ii, eqD_ss, eqD_bb, neD_ii, neD_ss, neD_bb, truD_bl, truD_int, truD_non, truD_str, truD_tup, truD_rol, isB_bl, walkD_tup, walkD_rol, walkD_str, lenD_str, lenD_tupE, lenD_rolE, rdI_ii, addD_ii, addD_ss, addD_tt, mulD_ii, absD_i, maxD_ii, minD_ii, divmodD_ii, strD_i, intD_s, isND_nn, zero_le_size, List.length_cons, List.length_nil, lit_empty, lit_figures, signs_map]
  by_cases h0 : l = []
  · subst h0
    simp
    rw [if_neg (by simp [okN])] at hQ
    exact fox0 hQ
  · have : ¬ (tx l = tx []) := fun z => h0 (tx_ne.mp z)
    simp only [this, decide_false, Bool.false_eq_true, if_false]
    intro p hp
    refine lcD_map1 (fun c : Nat => .bl (decide (48 ≤ c ∧ c ≤ 57))) hp hl (fun _ _ _ => trivial) (fun c hc => ⟨_, rfl, fun acc G' N L h => ?_⟩) (fun G' L => ?_)
    · simp only [dSeq, dNext, dRet, dRetN, dIfS, dDrop, dAsg, gdName, gdTup, gdNil, gdCons, dPar, dVar, dC, dOp, dCB, dCall, dCons, dNil, dTup, dLst, dB, dNot, dTru, dAnd, dOr, dAndV, dOrV, dNotV, dIf, dChain, dNeg, startD, List.map, List.length, List.replicate, List.append, List.cons_append, List.nil_append, List.append_nil, List.getElem?_cons_zero, List.getElem?_cons_succ, List.set_cons_zero, List.set_cons_succ, List.set_nil, Nat.sub_self, Nat.add_one_sub_one, Nat.reduceAdd, Nat.reduceSub, List.replicate_zero, List.replicate_succ, ixD_tup0, ixD_tup1, ixD_enc0, ixD_enc1, two_le_size, true_and, subD, modD, divD, powD, ltD, leD, gtD, geD, dLc, dFor, dYes, dRaise, dMt, dMt0, dSl, dPart, dNoPart, dFmt, dJoined, dJs, dOrT, forD, diSeq, diRng1, diRng2, diEnum, diZip2, diZip3, dWhile, dLenSet, bindP, bindPs, wipeD, dListRng, gdStar, gdSub, List.map_cons, List.map_nil, eqD_ii, eqD_ss, eqD_bb, neD_ii, neD_ss, neD_bb, truD_bl, truD_int, truD_non, truD_str, truD_tup, truD_rol, isB_bl, walkD_tup, walkD_rol, walkD_str, lenD_str, lenD_tupE, lenD_rolE, rdI_ii, addD_ii, addD_ss, addD_tt, mulD_ii, absD_i, maxD_ii, minD_ii, divmodD_ii, strD_i, intD_s, isND_nn, zero_le_size, List.length_cons, List.length_nil]
      refine ⟨c, rfl, ?_⟩
      rw [figures_mem]
      simpa using h _ L
    · refine allD_at (bs := l.map fun c => decide (48 ≤ c ∧ c ≤ 57)) (by simpa [Function.comp_def] using L.at) ?_
      have L1 := (Less.new (.refl G) hp).trans L
      have e : (l.map fun c => decide (48 ≤ c ∧ c ≤ 57)).all id = decide (∀ c ∈ l, 48 ≤ c ∧ c ≤ 57) := by
        rw [Bool.eq_iff_iff]
        simp
      rw [e]
      by_cases h1 : ∀ c ∈ l, 48 ≤ c ∧ c ≤ 57
      · have ok : okN l := ⟨h0, h1, by omega⟩
        rw [if_pos ok] at hQ
        rw [decide_eq_true h1]
        simp only [dSeq, dNext, dRet, dRetN, dIfS, dDrop, dAsg, gdName, gdTup, gdNil, gdCons, dPar, dVar, dC, dOp, dCB, dCall, dCons, dNil, dTup, dLst, dB, dNot, dTru, dAnd, dOr, dAndV, dOrV, dNotV, dIf, dChain, dNeg, startD, List.map, List.length, List.replicate, List.append, List.cons_append, List.nil_append, List.append_nil, List.getElem?_cons_zero, List.getElem?_cons_succ, List.set_cons_zero, List.set_cons_succ, List.set_nil, Nat.sub_self, Nat.add_one_sub_one, Nat.reduceAdd, Nat.reduceSub, List.replicate_zero, List.replicate_succ, ixD_tup0, ixD_tup1, ixD_enc0, ixD_enc1, two_le_size, true_and, subD, modD, divD, powD, ltD, leD, gtD, geD, dLc, dFor, dYes, dRaise, dMt, dMt0, dSl, dPart, dNoPart, dFmt, dJoined, dJs, dOrT, forD, diSeq, diRng1, diRng2, diEnum, diZip2, diZip3, dWhile, dLenSet, bindP, bindPs, wipeD, dListRng, gdStar, gdSub, List.map_cons, List.map_nil, eqD_ii, eqD_ss, eqD_bb, neD_ii, neD_ss, neD_bb, truD_bl, truD_int, truD_non, truD_str, truD_tup, truD_rol, isB_bl, walkD_tup, walkD_rol, walkD_str, lenD_str, lenD_tupE, lenD_rolE, rdI_ii, addD_ii, addD_ss, addD_tt, mulD_ii, absD_i, maxD_ii, minD_ii, divmodD_ii, strD_i, intD_s, isND_nn, zero_le_size, List.length_cons, List.length_nil, Bool.not_true, Bool.false_eq_true, if_false]
        rw [tx_length]
        refine ⟨hl, ?_⟩
        have : ¬ ((4000 : Int) < (l.length : Nat)) := by omega
        simp only [this, decide_false, Bool.false_eq_true, if_false]
        refine ⟨_, SX.int_S (by simpa using h1) h0 (by omega), by omega, ?_⟩
        exact Fo.mk L1 hQ
      · rw [if_neg (fun z => h1 z.2.1)] at hQ
        rw [decide_eq_false h1]
        simp only [dSeq, dNext, dRet, dRetN, dIfS, dDrop, dAsg, gdName, gdTup, gdNil, gdCons, dPar, dVar, dC, dOp, dCB, dCall, dCons, dNil, dTup, dLst, dB, dNot, dTru, dAnd, dOr, dAndV, dOrV, dNotV, dIf, dChain, dNeg, startD, List.map, List.length, List.replicate, List.append, List.cons_append, List.nil_append, List.append_nil, List.getElem?_cons_zero, List.getElem?_cons_succ, List.set_cons_zero, List.set_cons_succ, List.set_nil, Nat.sub_self, Nat.add_one_sub_one, Nat.reduceAdd, Nat.reduceSub, List.replicate_zero, List.replicate_succ, ixD_tup0, ixD_tup1, ixD_enc0, ixD_enc1, two_le_size, true_and, subD, modD, divD, powD, ltD, leD, gtD, geD, dLc, dFor, dYes, dRaise, dMt, dMt0, dSl, dPart, dNoPart, dFmt, dJoined, dJs, dOrT, forD, diSeq, diRng1, diRng2, diEnum, diZip2, diZip3, dWhile, dLenSet, bindP, bindPs, wipeD, dListRng, gdStar, gdSub, List.map_cons, List.map_nil, eqD_ii, eqD_ss, eqD_bb, neD_ii, neD_ss, neD_bb, truD_bl, truD_int, truD_non, truD_str, truD_tup, truD_rol, isB_bl, walkD_tup, walkD_rol, walkD_str, lenD_str, lenD_tupE, lenD_rolE, rdI_ii, addD_ii, addD_ss, addD_tt, mulD_ii, absD_i, maxD_ii, minD_ii, divmodD_ii, strD_i, intD_s, isND_nn, zero_le_size, List.length_cons, List.length_nil, Bool.not_false, if_true]
        exact ⟨G, L1, hQ⟩

def sp_read_part : DSp := sp1 fun a G Q E => ∃ l, a = .str (tx l) ∧ l.length ≤ 400 ∧ (match rdP l with | some q => Q (encQ q) G | none => E "NoText" [] G)
abbrev s_read_part : Stmt := topS 16
abbrev N_read_part : List Str := ["text", "above", "stroke", "below", "found"]
theorem sc_read_part : FnScope N_read_part ["text"] (defScope s_read_part) := ⟨rfl, rfl, rfl, by decide +kernel, rfl, by decide +kernel, by decide +kernel⟩
theorem ok_read_part (F : FunH K mg "read_part" s_read_part) (T : Tx K mg) (h_lowest : Has P w K mg base 2 "lowest" 2 [] sp_lowest) (h_part_text : Has P w K mg base 1 "part_text" 1 [] sp_part_text) (h_number_read : Has P w K mg base 1 "number_read" 1 [] sp_number_read) : Has P w K mg base 3 "read_part" 1 [] sp_read_part := by
  refine Has.ofF F sc_read_part (fun _ _ _ _ _ _ us hl => match us, hl with | [_], _ => rfl) len1 fun f cdv A outer s H E ds G Q Ed B hp h => ⟨_, (s_cons (s_if (d_tnot (d_ttru (d_callB c_isi T.b.isinstance boot_isinstance (a_cons (d_var 0) (a_cons (d_ty T.b.str boot_str) a_nil))))) (s_one (s_raise T.x_NoText B)) s_nil)
 (s_cons (s_asg (d_mt m_partition PySem.F.plainAttrs_str PySem.F.slot_str_partition PySem.F.type_str_partition (d_mt m_removeprefix PySem.F.plainAttrs_str PySem.F.slot_str_removeprefix PySem.F.type_str_removeprefix (d_var 0) (a_cons d_str a_nil)) (a_cons (d_gc T.g_STROKE) a_nil)) (g_tup (n := 3) B.hc (gs_cons (g_name (i := 1) sc_read_part.nd) (gs_cons (g_name (i := 2) sc_read_part.nd) (gs_cons (g_name (i := 3) sc_read_part.nd) gs_nil)))))
 (s_cons (s_set 4 sc_read_part.nd (d_ifExp (d_ttru (d_var 2)) (d_call h_lowest B (a_cons (d_call h_number_read B (a_cons (d_var 1) a_nil)) (a_cons (d_callB (c_max B.hc) T.b.max boot_max (a_cons d_int (a_cons (d_call h_number_read B (a_cons (d_var 3) a_nil)) a_nil))) a_nil))) (d_tup (a_cons (d_call h_number_read B (a_cons (d_var 1) a_nil)) (a_cons d_int a_nil)))))
 (s_cons (s_if (d_ttru (d_mt m_startswith PySem.F.plainAttrs_str PySem.F.slot_str_startswith PySem.F.type_str_startswith (d_var 0) (a_cons d_str a_nil))) (s_one (s_set 4 sc_read_part.nd (d_tup (a_cons (d_neg (d_ix (d_var 4) d_int)) (a_cons (d_ix (d_var 4) d_int) a_nil))))) s_nil)
 (s_cons (s_if (d_tcmp (o_ne B.hu) (d_call h_part_text B (a_cons (d_var 4) a_nil)) (d_var 0)) (s_one (s_raise T.x_NoText B)) s_nil)
 (s_one (s_ret (d_var 4)))))))), ?_⟩

  obtain ⟨a, rfl, l, rfl, hz, hQ⟩ := sp1_ex h
  have hl : l.length ≤ sizeLine := by rw [sizeLine_eq]; omega
  have hun : (unneg l).length ≤ 400 := by
    unfold unneg
    split
    · rw [List.length_tail]; omega
    · exact hz
  have bits : ∀ p : List Nat, okN p → p.length ≤ 400 → NumText.digitsVal p < 2 ^ 1600 := fun p hp hl => val_bits hp (k := 400) hl
  have fin : ∀ f : Rat, SmK 1600 f → (match (if ptL (if l.head? = some 45 then -f else f) = l then some (if l.head? = some 45 then -f else f) else none) with | some q => Q (encQ q) G | none => Ed "NoText" [] G) →
      ∀ g : Rat, g = (if l.head? = some 45 then -f else f) → SmK 1900 g ∧ (if (!decide (tx (ptL g) = tx l)) = true then FoX Ed "NoText" [] G else Fo Q (encQ g) G) := by
    rintro f hf hh g rfl
    refine ⟨?_, ?_⟩
    · split
      · exact hf.neg.mono (by decide)
      · exact hf.mono (by decide)
    · by_cases e : ptL (if l.head? = some 45 then -f else f) = l
      · rw [if_pos e] at hh
        rw [e]
        simpa using fo0 hh
      · rw [if_neg e] at hh
        have : ¬ (tx (ptL (if l.head? = some 45 then -f else f)) = tx l) := fun z => e (tx_ne.mp z)
        simpa [this] using fox0 hh
  simp only [dSeq, dNext, dRet, dRetN, dIfS, dDrop, dAsg, gdName, gdTup, gdNil, gdCons, dPar, dVar, dC, dOp, dCB, dCall, dCons, dNil, dTup, dLst, dB, dNot, dTru, dAnd, dOr, dAndV, dOrV, dNotV, dIf, dChain, dNeg, startD, List.map, List.length, List.replicate, List.append, List.cons_append, List.nil_append, List.append_nil, List.getElem?_cons_zero, List.getElem?_cons_succ, List.set_cons_zero, List.set_cons_succ, List.set_nil, Nat.sub_self, Nat.add_one_sub_one, Nat.reduceAdd, Nat.reduceSub, List.replicate_zero, List.replicate_succ, ixD_tup0, ixD_tup1, ixD_enc0, ixD_enc1, two_le_size, true_and, subD, modD, divD, powD, ltD, leD, gtD, geD, dLc, dFor, dYes, dRaise, dMt, dMt0, dSl, dPart, dNoPart, dFmt, dJoined, dJs, dOrT, forD, diSeq, diRng1, diRng2, diEnum, diZip2, diZip3, dWhile, dLenSet, bindP, bindPs, wipeD, dListRng, gdStar, gdSub, List.map_cons, List.map_nil, eqD_ii, eqD_ss, eqD_bb, neD_ii, neD_ss, neD_bb, truD_bl, truD_int, truD_non, truD_str, truD_tup, truD_rol, isB_bl, walkD_tup, walkD_rol, walkD_str, lenD_str, lenD_tupE, lenD_rolE, rdI_ii, addD_ii, addD_ss, addD_tt, mulD_ii, absD_i, maxD_ii, minD_ii, divmodD_ii, strD_i, intD_s, isND_nn, zero_le_size, List.length_cons, List.length_nil, isiD, lit_minus, lit_stroke, str1, partitionD, unneg_tx, tx_length, minus_tx]
  refine ⟨by simp, _, rfl, ?_⟩
  simp only [isN]
  refine ⟨rfl, hl, rfl, rfl, by rw [sizeLine_eq]; omega, ?_⟩
  unfold rdP at hQ
  have conv : ∀ f : Rat, SmK 1600 f → (match (if ptL (if l.head? = some 45 then -f else f) = l then some (if l.head? = some 45 then -f else f) else none) with | some q => Q (encQ q) G | none => Ed "NoText" [] G) →
      (if decide (l.head? = some 45) = true then sp_part_text [encQ (-f)] G (fun d G1 => neD d (.str (tx l)) G1 fun d G1 => isB d fun b => if b = true then FoX Ed "NoText" [] G1 else Fo Q (encQ (-f)) G1) (fun c fs G' => FoX Ed c fs G')
        else sp_part_text [encQ f] G (fun d G1 => neD d (.str (tx l)) G1 fun d G1 => isB d fun b => if b = true then FoX Ed "NoText" [] G1 else Fo Q (encQ f) G1) (fun c fs G' => FoX Ed c fs G')) := by
    intro f hf hh
    by_cases h45 : l.head? = some 45
    · rw [if_pos (by simpa using h45)]
      obtain ⟨h1, h2⟩ := fin f hf hh (-f) (by rw [if_pos h45])
      exact ⟨_, rfl, h1, h2⟩
    · rw [if_neg (by simpa using h45)]
      obtain ⟨h1, h2⟩ := fin f hf hh f (by rw [if_neg h45])
      exact ⟨_, rfl, h1, h2⟩
  cases hp : TL.par [47] [] (unneg l) with
  | none =>
    rw [SX.partition_none (by simp) hp]
    simp only [hp] at hQ
    simp only [dSeq, dNext, dRet, dRetN, dIfS, dDrop, dAsg, gdName, gdTup, gdNil, gdCons, dPar, dVar, dC, dOp, dCB, dCall, dCons, dNil, dTup, dLst, dB, dNot, dTru, dAnd, dOr, dAndV, dOrV, dNotV, dIf, dChain, dNeg, startD, List.map, List.length, List.replicate, List.append, List.cons_append, List.nil_append, List.append_nil, List.getElem?_cons_zero, List.getElem?_cons_succ, List.set_cons_zero, List.set_cons_succ, List.set_nil, Nat.sub_self, Nat.add_one_sub_one, Nat.reduceAdd, Nat.reduceSub, List.replicate_zero, List.replicate_succ, ixD_tup0, ixD_tup1, ixD_enc0, ixD_enc1, two_le_size, true_and, subD, modD, divD, powD, ltD, leD, gtD, geD, dLc, dFor, dYes, dRaise, dMt, dMt0, dSl, dPart, dNoPart, dFmt, dJoined, dJs, dOrT, forD, diSeq, diRng1, diRng2, diEnum, diZip2, diZip3, dWhile, dLenSet, bindP, bindPs, wipeD, dListRng, gdStar, gdSub, List.map_cons, List.map_nil, eqD_ii, eqD_ss, eqD_bb, neD_ii, neD_ss, neD_bb, truD_bl, truD_int, truD_non, truD_str, truD_tup, truD_rol, isB_bl, walkD_tup, walkD_rol, walkD_str, lenD_str, lenD_tupE, lenD_rolE, rdI_ii, addD_ii, addD_ss, addD_tt, mulD_ii, absD_i, maxD_ii, minD_ii, divmodD_ii, strD_i, intD_s, isND_nn, zero_le_size, List.length_cons, List.length_nil, sp_number_read, sp1]
    refine ⟨by rw [SX.S_len]; exact Nat.zero_le _, ?_⟩
    try simp only [SX.S_len]
    refine ⟨_, rfl, by omega, ?_⟩
    by_cases ho : okN (unneg l)
    · rw [if_pos ho] at hQ ⊢
      have hb := bits _ ho hun
      exact ⟨rfl, conv _ (SmK.int (by simpa using hb) (by decide)) hQ⟩
    · rw [if_neg ho] at hQ ⊢
      exact fox0 hQ
  | some ps =>
    obtain ⟨p, s⟩ := ps
    rw [SX.partition_some (by simp) hp]
    simp only [hp] at hQ
    have hlen := par_len (by simp) hp
    simp only [dSeq, dNext, dRet, dRetN, dIfS, dDrop, dAsg, gdName, gdTup, gdNil, gdCons, dPar, dVar, dC, dOp, dCB, dCall, dCons, dNil, dTup, dLst, dB, dNot, dTru, dAnd, dOr, dAndV, dOrV, dNotV, dIf, dChain, dNeg, startD, List.map, List.length, List.replicate, List.append, List.cons_append, List.nil_append, List.append_nil, List.getElem?_cons_zero, List.getElem?_cons_succ, List.set_cons_zero, List.set_cons_succ, List.set_nil, Nat.sub_self, Nat.add_one_sub_one, Nat.reduceAdd, Nat.reduceSub, List.replicate_zero, List.replicate_succ, ixD_tup0, ixD_tup1, ixD_enc0, ixD_enc1, two_le_size, true_and, subD, modD, divD, powD, ltD, leD, gtD, geD, dLc, dFor, dYes, dRaise, dMt, dMt0, dSl, dPart, dNoPart, dFmt, dJoined, dJs, dOrT, forD, diSeq, diRng1, diRng2, diEnum, diZip2, diZip3, dWhile, dLenSet, bindP, bindPs, wipeD, dListRng, gdStar, gdSub, List.map_cons, List.map_nil, eqD_ii, eqD_ss, eqD_bb, neD_ii, neD_ss, neD_bb, truD_bl, truD_int, truD_non, truD_str, truD_tup, truD_rol, isB_bl, walkD_tup, walkD_rol, walkD_str, lenD_str, lenD_tupE, lenD_rolE, rdI_ii, addD_ii, addD_ss, addD_tt, mulD_ii, absD_i, maxD_ii, minD_ii, divmodD_ii, strD_i, intD_s, isND_nn, zero_le_size, List.length_cons, List.length_nil, sp_number_read, sp1, sp_lowest, sp2]
    refine ⟨by simp [sizeLine_eq, SX.S_len], ?_⟩
    simp only [SX.S_len, List.length_cons, List.length_nil]
    refine ⟨_, rfl, by simp at hlen; omega, ?_⟩
    by_cases ho : okN p
    · rw [if_pos ho]
      refine ⟨_, rfl, by simp at hlen; omega, ?_⟩
      by_cases hs : okN s
      · rw [if_pos ⟨ho, hs⟩] at hQ
        rw [if_pos hs]
        try simp only [dSeq, dNext, dRet, dRetN, dIfS, dDrop, dAsg, gdName, gdTup, gdNil, gdCons, dPar, dVar, dC, dOp, dCB, dCall, dCons, dNil, dTup, dLst, dB, dNot, dTru, dAnd, dOr, dAndV, dOrV, dNotV, dIf, dChain, dNeg, startD, List.map, List.length, List.replicate, List.append, List.cons_append, List.nil_append, List.append_nil, List.getElem?_cons_zero, List.getElem?_cons_succ, List.set_cons_zero, List.set_cons_succ, List.set_nil, Nat.sub_self, Nat.add_one_sub_one, Nat.reduceAdd, Nat.reduceSub, List.replicate_zero, List.replicate_succ, ixD_tup0, ixD_tup1, ixD_enc0, ixD_enc1, two_le_size, true_and, subD, modD, divD, powD, ltD, leD, gtD, geD, dLc, dFor, dYes, dRaise, dMt, dMt0, dSl, dPart, dNoPart, dFmt, dJoined, dJs, dOrT, forD, diSeq, diRng1, diRng2, diEnum, diZip2, diZip3, dWhile, dLenSet, bindP, bindPs, wipeD, dListRng, gdStar, gdSub, List.map_cons, List.map_nil, eqD_ii, eqD_ss, eqD_bb, neD_ii, neD_ss, neD_bb, truD_bl, truD_int, truD_non, truD_str, truD_tup, truD_rol, isB_bl, walkD_tup, walkD_rol, walkD_str, lenD_str, lenD_tupE, lenD_rolE, rdI_ii, addD_ii, addD_ss, addD_tt, mulD_ii, absD_i, maxD_ii, minD_ii, divmodD_ii, strD_i, intD_s, isND_nn, zero_le_size, List.length_cons, List.length_nil]
        have hb1 := bits _ ho (by simp at hlen; omega)
        have hb2 := bits _ hs (by simp at hlen; omega)
        rw [intD_max1]
        have hm : max 1 (NumText.digitsVal s) < 2 ^ 1600 := by
          have : (1 : Nat) < 2 ^ 1600 := Nat.one_lt_two_pow (by decide)
          omega
        have h89 : (2 : Nat) ^ 1600 ≤ 2 ^ 8900 := Nat.pow_le_pow_right (by decide) (by decide)
        refine ⟨_, _, rfl, rfl, by omega, by rw [Int.natAbs_natCast]; omega, ?_⟩
        try simp only [dSeq, dNext, dRet, dRetN, dIfS, dDrop, dAsg, gdName, gdTup, gdNil, gdCons, dPar, dVar, dC, dOp, dCB, dCall, dCons, dNil, dTup, dLst, dB, dNot, dTru, dAnd, dOr, dAndV, dOrV, dNotV, dIf, dChain, dNeg, startD, List.map, List.length, List.replicate, List.append, List.cons_append, List.nil_append, List.append_nil, List.getElem?_cons_zero, List.getElem?_cons_succ, List.set_cons_zero, List.set_cons_succ, List.set_nil, Nat.sub_self, Nat.add_one_sub_one, Nat.reduceAdd, Nat.reduceSub, List.replicate_zero, List.replicate_succ, ixD_tup0, ixD_tup1, ixD_enc0, ixD_enc1, two_le_size, true_and, subD, modD, divD, powD, ltD, leD, gtD, geD, dLc, dFor, dYes, dRaise, dMt, dMt0, dSl, dPart, dNoPart, dFmt, dJoined, dJs, dOrT, forD, diSeq, diRng1, diRng2, diEnum, diZip2, diZip3, dWhile, dLenSet, bindP, bindPs, wipeD, dListRng, gdStar, gdSub, List.map_cons, List.map_nil, eqD_ii, eqD_ss, eqD_bb, neD_ii, neD_ss, neD_bb, truD_bl, truD_int, truD_non, truD_str, truD_tup, truD_rol, isB_bl, walkD_tup, walkD_rol, walkD_str, lenD_str, lenD_tupE, lenD_rolE, rdI_ii, addD_ii, addD_ss, addD_tt, mulD_ii, absD_i, maxD_ii, minD_ii, divmodD_ii, strD_i, intD_s, isND_nn, zero_le_size, List.length_cons, List.length_nil]
        exact ⟨rfl, conv _ (SmK.divInt (by simpa using hb1) (by simpa using hm) (by omega)) hQ⟩
      · rw [if_neg (fun z => hs z.2)] at hQ
        rw [if_neg hs]
        exact fox0 hQ
    · rw [if_neg (fun z => ho z.1)] at hQ
      rw [if_neg ho]
      exact fox0 hQ

end
end Q
set_option maxHeartbeats 4000000
namespace Q
open PySem PySem.Spec PyProof.Rows L2

section
variable {P : Program} {w : World} {K : PySem.W.Frag} {mg : Str → Option Value} {base : Heap}
def sp_moment_text : DSp := sp1 fun a G Q _ => ∃ W seats, a = encM W seats ∧ TxOk W seats ∧ Q (.str (tx (momL W seats))) G
abbrev s_moment_text : Stmt := topS 39
abbrev N_moment_text : List Str := ["moment", "weight", "seats", "rows", "person", "owed", "row"]
theorem sc_moment_text : FnScope N_moment_text ["moment"] (defScope s_moment_text) := ⟨rfl, rfl, rfl, by decide +kernel, rfl, by decide +kernel, by decide +kernel⟩
theorem ok_moment_text (F : FunH K mg "moment_text" s_moment_text) (T : Tx K mg) (h_part_text : Has P w K mg base 1 "part_text" 1 [] sp_part_text) : Has P w K mg base 2 "moment_text" 1 [] sp_moment_text := by
  refine Has.ofF F sc_moment_text (fun _ _ _ _ _ _ us hl => match us, hl with | [_], _ => rfl) len1 fun f cdv A outer s H E ds G Q Ed B hp h => ⟨_, (s_cons (s_asg (d_var 0) (g_tup (n := 2) B.hc (gs_cons (g_name (i := 1) sc_moment_text.nd) (gs_cons (g_name (i := 2) sc_moment_text.nd) gs_nil))))
 (s_cons (s_set 3 sc_moment_text.nd (d_lst (a_cons (d_joined (.cons (d_fmt (d_gc T.g_WEIGHT)) (.cons (d_fmt (d_var 1)) .nil))) a_nil)))
 (s_cons (s_expr (d_mt m_extend PySem.F.plainAttrs_list PySem.F.slot_list_extend PySem.F.type_list_extend (d_var 3) (a_cons (d_lc (own := [("person", 4), ("owed", 5)]) (p := .tp [.nm 4, .nm 5]) B.hc sc_moment_text.nd (blkOk_by (own := [("person", 4), ("owed", 5)]) (N := N_moment_text) (by kernel_rfl)) (by decide) (i_seq (d_var 2)) (fun s2 H2 C2 cl2 fp2 => (p_tup (B.blk s2 H2 _ _ fp2).hc (ps_cons' (p_name (i := 4) sc_moment_text.nd) (ps_cons' (p_name (i := 5) sc_moment_text.nd) ps_nil')))) (fun s2 H2 C2 cl2 fp2 => ts_nil) (fun s2 H2 C2 cl2 fp2 => (d_joined (.cons (d_fmt (d_gc T.g_SEAT)) (.cons d_str (.cons (d_fmt (d_orT (d_var 4) (d_one (d_gc T.g_NOBODY)))) (.cons d_str (.cons (d_fmt (d_call h_part_text (B.blk s2 H2 _ _ fp2) (a_cons (d_var 5) a_nil))) .nil)))))))) a_nil)))
 (s_one (s_ret (d_mt m_join PySem.F.plainAttrs_str PySem.F.slot_str_join PySem.F.type_str_join d_str (a_cons (d_lc (own := [("row", 6)]) (p := .nm 6) B.hc sc_moment_text.nd (blkOk_by (own := [("row", 6)]) (N := N_moment_text) (by kernel_rfl)) (by decide) (i_seq (d_var 3)) (fun s1 H1 C1 cl1 fp1 => (p_name (i := 6) sc_moment_text.nd)) (fun s1 H1 C1 cl1 fp1 => ts_nil) (fun s1 H1 C1 cl1 fp1 => (d_op o_add (d_var 6) d_str))) a_nil))))))), ?_⟩

  obtain ⟨a, rfl, W, seats, rfl, hs, hQ⟩ := sp1_ex h
  have hz : seats.length ≤ sizeLine := by rw [sizeLine_eq]; have := hs.n; omega
  have hw : (numZ W).length ≤ 301 := numZ_len (k := 300) (by decide) hs.w
  simp only [dSeq, dNext, dRet, dRetN, dIfS, dDrop, dAsg, gdName, gdTup, gdNil, gdCons, dPar, dVar, dC, dOp, dCB, dCall, dCons, dNil, dTup, dLst, dB, dNot, dTru, dAnd, dOr, dAndV, dOrV, dNotV, dIf, dChain, dNeg, startD, List.map, List.length, List.replicate, List.append, List.cons_append, List.nil_append, List.append_nil, List.getElem?_cons_zero, List.getElem?_cons_succ, List.set_cons_zero, List.set_cons_succ, List.set_nil, Nat.sub_self, Nat.add_one_sub_one, Nat.reduceAdd, Nat.reduceSub, List.replicate_zero, List.replicate_succ, ixD_tup0, ixD_tup1, ixD_enc0, ixD_enc1, two_le_size, true_and, subD, modD, divD, powD, ltD, leD, gtD, geD, dLc, dFor, dYes, dRaise, dMt, dMt0, dSl, dPart, dNoPart, dFmt, dJoined, dJs, dOrT, forD, diSeq, diRng1, diRng2, diEnum, diZip2, diZip3, dWhile, dLenSet, bindP, bindPs, wipeD, dListRng, gdStar, gdSub, List.map_cons, List.map_nil, eqD_ii, eqD_ss, eqD_bb, neD_ii, neD_ss, neD_bb, truD_bl, truD_int, truD_non, truD_str, truD_tup, truD_rol, isB_bl, walkD_tup, walkD_rol, walkD_str, lenD_str, lenD_tupE, lenD_rolE, rdI_ii, addD_ii, addD_ss, addD_tt, mulD_ii, absD_i, maxD_ii, minD_ii, divmodD_ii, strD_i, intD_s, isND_nn, zero_le_size, List.length_cons, List.length_nil, encM, fmtD, lit_weight, lit_empty, lit_seat, lit_nl, lit_blank, lit_seatb, lit_minus, tx_int, empty_tx, tx_app, tx_length, appendD, extendD]
  have hlog : W.natAbs.log2 < 1920 := log_of hs.w (by decide) (by decide)
  refine ⟨by simp [sizeLine_eq], by simp [sizeLine_eq], hlog, by simp [sizeLine_eq]; omega, by simp [sizeLine_eq], fun p hp => ?_⟩
  refine ⟨tyD_lst gupd_same, fun q hq => ?_⟩
  obtain ⟨hqp, hq0⟩ := gupd_none hq
  have L0 : Less G (gupd G p (.lst [.str (tx (headL W))])) := .new (.refl G) hp
  refine lcD_map1 (fun s => .str (tx (seatL s))) hq hz (fun _ _ _ => trivial) (fun s hs' => ⟨_, rfl, fun acc G' N L h => ?_⟩) (fun G' L => ?_)
  · have h1 := hs.s s hs'
    have h2 := ptL_len (k := 100) (by decide) h1.1
    have h3 := h1.2
    have e : seatL s = [115, 101, 97, 116] ++ [32] ++ (if s.1 = [] then [45] else s.1) ++ [32] ++ ptL s.2 := by simp [seatL]
    simp only [dSeq, dNext, dRet, dRetN, dIfS, dDrop, dAsg, gdName, gdTup, gdNil, gdCons, dPar, dVar, dC, dOp, dCB, dCall, dCons, dNil, dTup, dLst, dB, dNot, dTru, dAnd, dOr, dAndV, dOrV, dNotV, dIf, dChain, dNeg, startD, List.map, List.length, List.replicate, List.append, List.cons_append, List.nil_append, List.append_nil, List.getElem?_cons_zero, List.getElem?_cons_succ, List.set_cons_zero, List.set_cons_succ, List.set_nil, Nat.sub_self, Nat.add_one_sub_one, Nat.reduceAdd, Nat.reduceSub, List.replicate_zero, List.replicate_succ, ixD_tup0, ixD_tup1, ixD_enc0, ixD_enc1, two_le_size, true_and, subD, modD, divD, powD, ltD, leD, gtD, geD, dLc, dFor, dYes, dRaise, dMt, dMt0, dSl, dPart, dNoPart, dFmt, dJoined, dJs, dOrT, forD, diSeq, diRng1, diRng2, diEnum, diZip2, diZip3, dWhile, dLenSet, bindP, bindPs, wipeD, dListRng, gdStar, gdSub, List.map_cons, List.map_nil, eqD_ii, eqD_ss, eqD_bb, neD_ii, neD_ss, neD_bb, truD_bl, truD_int, truD_non, truD_str, truD_tup, truD_rol, isB_bl, walkD_tup, walkD_rol, walkD_str, lenD_str, lenD_tupE, lenD_rolE, rdI_ii, addD_ii, addD_ss, addD_tt, mulD_ii, absD_i, maxD_ii, minD_ii, divmodD_ii, strD_i, intD_s, isND_nn, zero_le_size, List.length_cons, List.length_nil, fmtD, empty_tx, tx_app, tx_length]
    refine ⟨by simp [sizeLine_eq], by simp [sizeLine_eq], by simp [sizeLine_eq], by rw [sizeLine_eq]; omega, ?_⟩
    by_cases h0 : s.1 = []
    · rw [if_pos h0] at e
      simp [h0]
      refine ⟨by rw [sizeLine_eq]; omega, by rw [sizeLine_eq]; omega, by rw [sizeLine_eq]; omega, s.2, rfl, h1.1.mono (by decide), by rw [tx_length, sizeLine_eq]; omega, ?_⟩
      rw [tx_app, tx_length]
      have := h _ L
      rw [e] at this
      exact ⟨by simp [sizeLine_eq]; omega, by simpa using this⟩
    · rw [if_neg h0] at e
      simp [h0]
      refine ⟨by rw [sizeLine_eq]; omega, by rw [sizeLine_eq]; omega, by rw [sizeLine_eq]; omega, s.2, rfl, h1.1.mono (by decide), by rw [tx_length, sizeLine_eq]; omega, ?_⟩
      rw [tx_app, tx_length]
      have := h _ L
      rw [e] at this
      exact ⟨by simp [sizeLine_eq]; omega, by simpa using this⟩
  · have hGp : G' p = some (.lst [.str (tx (headL W))]) := L _ _ (by rw [gupd_ne hqp.symm]; exact gupd_same)
    have L1 : Less G G' := (L0.new hq).trans L
    have hn := hs.n
    refine ⟨_, _, hGp, L.at, by simp [sizeLine_eq]; omega, rfl, ?_⟩
    have ei : ([D.str (tx (headL W))] ++ seats.map fun s => D.str (tx (seatL s))) = (headL W :: seats.map seatL).map fun y => D.str (tx y) := by simp [Function.comp_def]
    rw [ei]
    refine walkD_lst gupd_same ?_
    intro r hr
    have hrp := gupd_none hr
    refine lcD_map1 (fun y => .str (tx (y ++ [10]))) hr (by simp [sizeLine_eq]; omega) (fun acc G2 L2 => L2 _ _ (by rw [gupd_ne hrp.1.symm]; exact gupd_same)) (fun y hy => ⟨_, rfl, fun acc G2 N L2 h => ?_⟩) (fun G2 L2 => ?_)
    · simp only [dSeq, dNext, dRet, dRetN, dIfS, dDrop, dAsg, gdName, gdTup, gdNil, gdCons, dPar, dVar, dC, dOp, dCB, dCall, dCons, dNil, dTup, dLst, dB, dNot, dTru, dAnd, dOr, dAndV, dOrV, dNotV, dIf, dChain, dNeg, startD, List.map, List.length, List.replicate, List.append, List.cons_append, List.nil_append, List.append_nil, List.getElem?_cons_zero, List.getElem?_cons_succ, List.set_cons_zero, List.set_cons_succ, List.set_nil, Nat.sub_self, Nat.add_one_sub_one, Nat.reduceAdd, Nat.reduceSub, List.replicate_zero, List.replicate_succ, ixD_tup0, ixD_tup1, ixD_enc0, ixD_enc1, two_le_size, true_and, subD, modD, divD, powD, ltD, leD, gtD, geD, dLc, dFor, dYes, dRaise, dMt, dMt0, dSl, dPart, dNoPart, dFmt, dJoined, dJs, dOrT, forD, diSeq, diRng1, diRng2, diEnum, diZip2, diZip3, dWhile, dLenSet, bindP, bindPs, wipeD, dListRng, gdStar, gdSub, List.map_cons, List.map_nil, eqD_ii, eqD_ss, eqD_bb, neD_ii, neD_ss, neD_bb, truD_bl, truD_int, truD_non, truD_str, truD_tup, truD_rol, isB_bl, walkD_tup, walkD_rol, walkD_str, lenD_str, lenD_tupE, lenD_rolE, rdI_ii, addD_ii, addD_ss, addD_tt, mulD_ii, absD_i, maxD_ii, minD_ii, divmodD_ii, strD_i, intD_s, isND_nn, zero_le_size, List.length_cons, List.length_nil, tx_app, tx_length]
      refine ⟨?_, h _ L2⟩
      rcases List.mem_cons.mp hy with rfl | hy
      · simp [headL, sizeLine_eq]; omega
      · obtain ⟨s, hs', rfl⟩ := List.mem_map.mp hy
        have := seatL_len (hs.s s hs').2 (hs.s s hs').1
        rw [sizeLine_eq]; simp; omega
    · refine ⟨((headL W :: seats.map seatL).map (· ++ [10])).map tx, ?_, ?_, ?_⟩
      · show G2 r = _
        rw [L2.at]; simp [Function.comp_def]
      · have := hs.sizes
        simp [SX.S_len, Function.comp_def] at this ⊢
        omega
      · rw [join_tx, momL_eq]
        refine Fo.mk (.trans ?_ L2) hQ
        exact ((L1.put hp).new hr)

def sp_seat_read : DSp := sp1 fun a G Q E => ∃ s : List Nat × Rat, a = .str (tx (seatL s)) ∧ okNm s.1 ∧ (ptL s.2).length ≤ 400 ∧ Q (encS s) G
abbrev s_seat_read : Stmt := topS 40
abbrev N_seat_read : List Str := ["row", "words"]
theorem sc_seat_read : FnScope N_seat_read ["row"] (defScope s_seat_read) := ⟨rfl, rfl, rfl, by decide +kernel, rfl, by decide +kernel, by decide +kernel⟩
theorem ok_seat_read (F : FunH K mg "seat_read" s_seat_read) (T : Tx K mg) (h_read_part : Has P w K mg base 3 "read_part" 1 [] sp_read_part) : Has P w K mg base 4 "seat_read" 1 [] sp_seat_read := by
  refine Has.ofF F sc_seat_read (fun _ _ _ _ _ _ us hl => match us, hl with | [_], _ => rfl) len1 fun f cdv A outer s H E ds G Q Ed B hp h => ⟨_, (s_cons (s_set 1 sc_seat_read.nd (d_mt m_split PySem.F.plainAttrs_str PySem.F.slot_str_split PySem.F.type_str_split (d_var 0) (a_cons d_str a_nil)))
 (s_cons (s_if (PWd.t (d_or (d_tcmp (o_ne B.hu) (d_callB c_len T.b.len boot_len (a_cons (d_var 1) a_nil)) d_int) (d_or1 (d_tcmp (o_ne B.hu) (d_ix (d_var 1) d_int) (d_gc T.g_SEAT))))) (s_one (s_raise T.x_NoText B)) s_nil)
 (s_one (s_ret (d_tup (a_cons (d_ifExp (d_tcmp (o_eq B.hu) (d_ix (d_var 1) d_int) (d_gc T.g_NOBODY)) (d_gc T.g_EMPTY) (d_ix (d_var 1) d_int)) (a_cons (d_call h_read_part B (a_cons (d_ix (d_var 1) d_int) a_nil)) a_nil))))))), ?_⟩

  obtain ⟨a, rfl, s, rfl, hn, hz, hQ⟩ := sp1_ex h
  have hl := hn.1
  have hsl : (seatL s).length ≤ 500 := by
    unfold seatL
    have h3 : (if s.1 = [] then [45] else s.1).length ≤ 8 := by
      split
      · simp
      · exact hl
    simp only [List.length_append, List.length_cons, List.length_nil]
    omega
  simp only [dSeq, dNext, dRet, dRetN, dIfS, dDrop, dAsg, gdName, gdTup, gdNil, gdCons, dPar, dVar, dC, dOp, dCB, dCall, dCons, dNil, dTup, dLst, dB, dNot, dTru, dAnd, dOr, dAndV, dOrV, dNotV, dIf, dChain, dNeg, startD, List.map, List.length, List.replicate, List.append, List.cons_append, List.nil_append, List.append_nil, List.getElem?_cons_zero, List.getElem?_cons_succ, List.set_cons_zero, List.set_cons_succ, List.set_nil, Nat.sub_self, Nat.add_one_sub_one, Nat.reduceAdd, Nat.reduceSub, List.replicate_zero, List.replicate_succ, ixD_tup0, ixD_tup1, ixD_enc0, ixD_enc1, two_le_size, true_and, subD, modD, divD, powD, ltD, leD, gtD, geD, dLc, dFor, dYes, dRaise, dMt, dMt0, dSl, dPart, dNoPart, dFmt, dJoined, dJs, dOrT, forD, diSeq, diRng1, diRng2, diEnum, diZip2, diZip3, dWhile, dLenSet, bindP, bindPs, wipeD, dListRng, gdStar, gdSub, List.map_cons, List.map_nil, eqD_ii, eqD_ss, eqD_bb, neD_ii, neD_ss, neD_bb, truD_bl, truD_int, truD_non, truD_str, truD_tup, truD_rol, isB_bl, walkD_tup, walkD_rol, walkD_str, lenD_str, lenD_tupE, lenD_rolE, rdI_ii, addD_ii, addD_ss, addD_tt, mulD_ii, absD_i, maxD_ii, minD_ii, divmodD_ii, strD_i, intD_s, isND_nn, zero_le_size, List.length_cons, List.length_nil, lit_blank, lit_seat, lit_minus, lit_empty, splitD, tx_length]
  refine ⟨rfl, rfl, by rw [sizeLine_eq]; omega, fun p hp => ?_⟩
  rw [split_tx (by simp) (by decide), spl_seat hn]
  simp only [dSeq, dNext, dRet, dRetN, dIfS, dDrop, dAsg, gdName, gdTup, gdNil, gdCons, dPar, dVar, dC, dOp, dCB, dCall, dCons, dNil, dTup, dLst, dB, dNot, dTru, dAnd, dOr, dAndV, dOrV, dNotV, dIf, dChain, dNeg, startD, List.map, List.length, List.replicate, List.append, List.cons_append, List.nil_append, List.append_nil, List.getElem?_cons_zero, List.getElem?_cons_succ, List.set_cons_zero, List.set_cons_succ, List.set_nil, Nat.sub_self, Nat.add_one_sub_one, Nat.reduceAdd, Nat.reduceSub, List.replicate_zero, List.replicate_succ, ixD_tup0, ixD_tup1, ixD_enc0, ixD_enc1, two_le_size, true_and, subD, modD, divD, powD, ltD, leD, gtD, geD, dLc, dFor, dYes, dRaise, dMt, dMt0, dSl, dPart, dNoPart, dFmt, dJoined, dJs, dOrT, forD, diSeq, diRng1, diRng2, diEnum, diZip2, diZip3, dWhile, dLenSet, bindP, bindPs, wipeD, dListRng, gdStar, gdSub, List.map_cons, List.map_nil, eqD_ii, eqD_ss, eqD_bb, neD_ii, neD_ss, neD_bb, truD_bl, truD_int, truD_non, truD_str, truD_tup, truD_rol, isB_bl, walkD_tup, walkD_rol, walkD_str, lenD_str, lenD_tupE, lenD_rolE, rdI_ii, addD_ii, addD_ss, addD_tt, mulD_ii, absD_i, maxD_ii, minD_ii, divmodD_ii, strD_i, intD_s, isND_nn, zero_le_size, List.length_cons, List.length_nil]
  have L1 : Less G (gupd G p (.lst [.str (tx [115, 101, 97, 116]), .str (tx (if s.1 = [] then [45] else s.1)), .str (tx (ptL s.2))])) := .new (.refl G) hp
  refine lenD_seq (x := .ref p) gupd_same ?_
  simp only [dSeq, dNext, dRet, dRetN, dIfS, dDrop, dAsg, gdName, gdTup, gdNil, gdCons, dPar, dVar, dC, dOp, dCB, dCall, dCons, dNil, dTup, dLst, dB, dNot, dTru, dAnd, dOr, dAndV, dOrV, dNotV, dIf, dChain, dNeg, startD, List.map, List.length, List.replicate, List.append, List.cons_append, List.nil_append, List.append_nil, List.getElem?_cons_zero, List.getElem?_cons_succ, List.set_cons_zero, List.set_cons_succ, List.set_nil, Nat.sub_self, Nat.add_one_sub_one, Nat.reduceAdd, Nat.reduceSub, List.replicate_zero, List.replicate_succ, ixD_tup0, ixD_tup1, ixD_enc0, ixD_enc1, two_le_size, true_and, subD, modD, divD, powD, ltD, leD, gtD, geD, dLc, dFor, dYes, dRaise, dMt, dMt0, dSl, dPart, dNoPart, dFmt, dJoined, dJs, dOrT, forD, diSeq, diRng1, diRng2, diEnum, diZip2, diZip3, dWhile, dLenSet, bindP, bindPs, wipeD, dListRng, gdStar, gdSub, List.map_cons, List.map_nil, eqD_ii, eqD_ss, eqD_bb, neD_ii, neD_ss, neD_bb, truD_bl, truD_int, truD_non, truD_str, truD_tup, truD_rol, isB_bl, walkD_tup, walkD_rol, walkD_str, lenD_str, lenD_tupE, lenD_rolE, rdI_ii, addD_ii, addD_ss, addD_tt, mulD_ii, absD_i, maxD_ii, minD_ii, divmodD_ii, strD_i, intD_s, isND_nn, zero_le_size, List.length_cons, List.length_nil]
  rw [if_neg (by simp)]
  refine ixD_ref (i := 0) gupd_same rfl ?_
  simp only [dSeq, dNext, dRet, dRetN, dIfS, dDrop, dAsg, gdName, gdTup, gdNil, gdCons, dPar, dVar, dC, dOp, dCB, dCall, dCons, dNil, dTup, dLst, dB, dNot, dTru, dAnd, dOr, dAndV, dOrV, dNotV, dIf, dChain, dNeg, startD, List.map, List.length, List.replicate, List.append, List.cons_append, List.nil_append, List.append_nil, List.getElem?_cons_zero, List.getElem?_cons_succ, List.set_cons_zero, List.set_cons_succ, List.set_nil, Nat.sub_self, Nat.add_one_sub_one, Nat.reduceAdd, Nat.reduceSub, List.replicate_zero, List.replicate_succ, ixD_tup0, ixD_tup1, ixD_enc0, ixD_enc1, two_le_size, true_and, subD, modD, divD, powD, ltD, leD, gtD, geD, dLc, dFor, dYes, dRaise, dMt, dMt0, dSl, dPart, dNoPart, dFmt, dJoined, dJs, dOrT, forD, diSeq, diRng1, diRng2, diEnum, diZip2, diZip3, dWhile, dLenSet, bindP, bindPs, wipeD, dListRng, gdStar, gdSub, List.map_cons, List.map_nil, eqD_ii, eqD_ss, eqD_bb, neD_ii, neD_ss, neD_bb, truD_bl, truD_int, truD_non, truD_str, truD_tup, truD_rol, isB_bl, walkD_tup, walkD_rol, walkD_str, lenD_str, lenD_tupE, lenD_rolE, rdI_ii, addD_ii, addD_ss, addD_tt, mulD_ii, absD_i, maxD_ii, minD_ii, divmodD_ii, strD_i, intD_s, isND_nn, zero_le_size, List.length_cons, List.length_nil]
  simp
  refine ixD_ref (i := 1) gupd_same rfl ?_
  simp only [dSeq, dNext, dRet, dRetN, dIfS, dDrop, dAsg, gdName, gdTup, gdNil, gdCons, dPar, dVar, dC, dOp, dCB, dCall, dCons, dNil, dTup, dLst, dB, dNot, dTru, dAnd, dOr, dAndV, dOrV, dNotV, dIf, dChain, dNeg, startD, List.map, List.length, List.replicate, List.append, List.cons_append, List.nil_append, List.append_nil, List.getElem?_cons_zero, List.getElem?_cons_succ, List.set_cons_zero, List.set_cons_succ, List.set_nil, Nat.sub_self, Nat.add_one_sub_one, Nat.reduceAdd, Nat.reduceSub, List.replicate_zero, List.replicate_succ, ixD_tup0, ixD_tup1, ixD_enc0, ixD_enc1, two_le_size, true_and, subD, modD, divD, powD, ltD, leD, gtD, geD, dLc, dFor, dYes, dRaise, dMt, dMt0, dSl, dPart, dNoPart, dFmt, dJoined, dJs, dOrT, forD, diSeq, diRng1, diRng2, diEnum, diZip2, diZip3, dWhile, dLenSet, bindP, bindPs, wipeD, dListRng, gdStar, gdSub, List.map_cons, List.map_nil, eqD_ii, eqD_ss, eqD_bb, neD_ii, neD_ss, neD_bb, truD_bl, truD_int, truD_non, truD_str, truD_tup, truD_rol, isB_bl, walkD_tup, walkD_rol, walkD_str, lenD_str, lenD_tupE, lenD_rolE, rdI_ii, addD_ii, addD_ss, addD_tt, mulD_ii, absD_i, maxD_ii, minD_ii, divmodD_ii, strD_i, intD_s, isND_nn, zero_le_size, List.length_cons, List.length_nil]
  have fin : ixD (.ref p) (.int 2) (gupd G p (.lst [.str (tx [115, 101, 97, 116]), .str (tx (if s.1 = [] then [45] else s.1)), .str (tx (ptL s.2))])) fun x G1 =>
      sp_read_part [x] G1 (fun x G1 => Fo Q (.tup [.str (tx s.1), x]) G1) (fun c fs G' => FoX Ed c fs G') := by
    refine ixD_ref (i := 2) gupd_same rfl ⟨_, rfl, hz, ?_⟩
    rw [rdP_ptL s.2 (by omega)]
    exact Fo.mk L1 hQ
  by_cases h0 : s.1 = []
  · rw [if_pos h0] at fin ⊢
    simp
    rw [h0] at fin
    exact fin
  · rw [if_neg h0] at fin ⊢
    have : ¬ (tx s.1 = tx [45]) := fun z => hn.not_minus (tx_ne.mp z)
    simp only [this, decide_false, Bool.false_eq_true, if_false]
    refine ixD_ref (i := 1) gupd_same rfl ?_
    exact fin

end
end Q
set_option maxHeartbeats 4000000
namespace Q
open PySem PySem.Spec PyProof.Rows L2

section
variable {P : Program} {w : World} {K : PySem.W.Frag} {mg : Str → Option Value} {base : Heap}
def sp_read_moment : DSp := sp1 fun a G Q E => ∃ W seats, a = .str (tx (momL W seats)) ∧ Good W seats ∧ Rok (owL seats) ∧ TxOk W seats ∧ Q (encM W seats) G
abbrev s_read_moment : Stmt := topS 41
abbrev N_read_moment : List Str := ["text", "head", "rows", "weight", "below", "found", "row"]
theorem sc_read_moment : FnScope N_read_moment ["text"] (defScope s_read_moment) := ⟨rfl, rfl, rfl, by decide +kernel, rfl, by decide +kernel, by decide +kernel⟩
theorem ok_read_moment (F : FunH K mg "read_moment" s_read_moment) (T : Tx K mg) (h_read_part : Has P w K mg base 3 "read_part" 1 [] sp_read_part) (h_is_moment : Has P w K mg base 7 "is_moment" 1 [] sp_is_moment) (h_moment_text : Has P w K mg base 2 "moment_text" 1 [] sp_moment_text) (h_seat_read : Has P w K mg base 4 "seat_read" 1 [] sp_seat_read) : Has P w K mg base 8 "read_moment" 1 [] sp_read_moment := by
  refine Has.ofF F sc_read_moment (fun _ _ _ _ _ _ us hl => match us, hl with | [_], _ => rfl) len1 fun f cdv A outer s H E ds G Q Ed B hp h => ⟨_, (s_cons (s_if (d_tnot (d_ttru (d_callB c_isi T.b.isinstance boot_isinstance (a_cons (d_var 0) (a_cons (d_ty T.b.str boot_str) a_nil))))) (s_one (s_raise T.x_NoText B)) s_nil)
 (s_cons (s_asg (d_mt m_split PySem.F.plainAttrs_str PySem.F.slot_str_split PySem.F.type_str_split (d_var 0) (a_cons d_str a_nil)) (g_star B.hc (gs_cons (g_name (i := 1) sc_read_moment.nd) (gs_cons (g_name (i := 2) sc_read_moment.nd) gs_nil))))
 (s_cons (s_asg (d_call h_read_part B (a_cons (d_mt m_removeprefix PySem.F.plainAttrs_str PySem.F.slot_str_removeprefix PySem.F.type_str_removeprefix (d_var 1) (a_cons (d_gc T.g_WEIGHT) a_nil)) a_nil)) (g_tup (n := 2) B.hc (gs_cons (g_name (i := 3) sc_read_moment.nd) (gs_cons (g_name (i := 4) sc_read_moment.nd) gs_nil))))
 (s_cons (s_set 5 sc_read_moment.nd (d_tup (a_cons (d_var 3) (a_cons (d_callTy c_tuple T.b.tuple boot_tuple (a_cons (d_lc (own := [("row", 6)]) (p := .nm 6) B.hc sc_read_moment.nd (blkOk_by (own := [("row", 6)]) (N := N_read_moment) (by kernel_rfl)) (by decide) (i_seq (d_slice (d_var 2) o_none (o_some (d_neg d_int)))) (fun s1 H1 C1 cl1 fp1 => (p_name (i := 6) sc_read_moment.nd)) (fun s1 H1 C1 cl1 fp1 => ts_nil) (fun s1 H1 C1 cl1 fp1 => (d_call h_seat_read (B.blk s1 H1 _ _ fp1) (a_cons (d_var 6) a_nil)))) a_nil)) a_nil))))
 (s_cons (s_if (PWd.t (d_or (d_tnot (d_ttru (d_call h_is_moment B (a_cons (d_var 5) a_nil)))) (d_or1 (d_tcmp (o_ne B.hu) (d_call h_moment_text B (a_cons (d_var 5) a_nil)) (d_var 0))))) (s_one (s_raise T.x_NoText B)) s_nil)
 (s_one (s_ret (d_var 5)))))))), ?_⟩

  obtain ⟨a, rfl, W, seats, rfl, hg, hrk, hs, hQ⟩ := sp1_ex h
  have hl := momL_len hs
  have hn := hs.n
  have hw : (numZ W).length ≤ 301 := numZ_len (k := 300) (by decide) hs.w
  simp only [dSeq, dNext, dRet, dRetN, dIfS, dDrop, dAsg, gdName, gdTup, gdNil, gdCons, dPar, dVar, dC, dOp, dCB, dCall, dCons, dNil, dTup, dLst, dB, dNot, dTru, dAnd, dOr, dAndV, dOrV, dNotV, dIf, dChain, dNeg, startD, List.map, List.length, List.replicate, List.append, List.cons_append, List.nil_append, List.append_nil, List.getElem?_cons_zero, List.getElem?_cons_succ, List.set_cons_zero, List.set_cons_succ, List.set_nil, Nat.sub_self, Nat.add_one_sub_one, Nat.reduceAdd, Nat.reduceSub, List.replicate_zero, List.replicate_succ, ixD_tup0, ixD_tup1, ixD_enc0, ixD_enc1, two_le_size, true_and, subD, modD, divD, powD, ltD, leD, gtD, geD, dLc, dFor, dYes, dRaise, dMt, dMt0, dSl, dPart, dNoPart, dFmt, dJoined, dJs, dOrT, forD, diSeq, diRng1, diRng2, diEnum, diZip2, diZip3, dWhile, dLenSet, bindP, bindPs, wipeD, dListRng, gdStar, gdSub, List.map_cons, List.map_nil, eqD_ii, eqD_ss, eqD_bb, neD_ii, neD_ss, neD_bb, truD_bl, truD_int, truD_non, truD_str, truD_tup, truD_rol, isB_bl, walkD_tup, walkD_rol, walkD_str, lenD_str, lenD_tupE, lenD_rolE, rdI_ii, addD_ii, addD_ss, addD_tt, mulD_ii, absD_i, maxD_ii, minD_ii, divmodD_ii, strD_i, intD_s, isND_nn, zero_le_size, List.length_cons, List.length_nil, isiD, lit_nl, splitD, tx_length]
  refine ⟨by simp, _, rfl, ?_⟩
  simp only [isN]
  refine ⟨rfl, rfl, by rw [sizeLine_eq]; omega, fun p hp => ?_⟩
  rw [split_tx (by simp) (by decide), spl_mom hg.2.1]
  simp only [dSeq, dNext, dRet, dRetN, dIfS, dDrop, dAsg, gdName, gdTup, gdNil, gdCons, dPar, dVar, dC, dOp, dCB, dCall, dCons, dNil, dTup, dLst, dB, dNot, dTru, dAnd, dOr, dAndV, dOrV, dNotV, dIf, dChain, dNeg, startD, List.map, List.length, List.replicate, List.append, List.cons_append, List.nil_append, List.append_nil, List.getElem?_cons_zero, List.getElem?_cons_succ, List.set_cons_zero, List.set_cons_succ, List.set_nil, Nat.sub_self, Nat.add_one_sub_one, Nat.reduceAdd, Nat.reduceSub, List.replicate_zero, List.replicate_succ, ixD_tup0, ixD_tup1, ixD_enc0, ixD_enc1, two_le_size, true_and, subD, modD, divD, powD, ltD, leD, gtD, geD, dLc, dFor, dYes, dRaise, dMt, dMt0, dSl, dPart, dNoPart, dFmt, dJoined, dJs, dOrT, forD, diSeq, diRng1, diRng2, diEnum, diZip2, diZip3, dWhile, dLenSet, bindP, bindPs, wipeD, dListRng, gdStar, gdSub, List.map_cons, List.map_nil, eqD_ii, eqD_ss, eqD_bb, neD_ii, neD_ss, neD_bb, truD_bl, truD_int, truD_non, truD_str, truD_tup, truD_rol, isB_bl, walkD_tup, walkD_rol, walkD_str, lenD_str, lenD_tupE, lenD_rolE, rdI_ii, addD_ii, addD_ss, addD_tt, mulD_ii, absD_i, maxD_ii, minD_ii, divmodD_ii, strD_i, intD_s, isND_nn, zero_le_size, List.length_cons, List.length_nil]
  refine ⟨_, _, gupd_same, fun q hq => ?_⟩
  have hqp := gupd_none hq
  simp only [dSeq, dNext, dRet, dRetN, dIfS, dDrop, dAsg, gdName, gdTup, gdNil, gdCons, dPar, dVar, dC, dOp, dCB, dCall, dCons, dNil, dTup, dLst, dB, dNot, dTru, dAnd, dOr, dAndV, dOrV, dNotV, dIf, dChain, dNeg, startD, List.map, List.length, List.replicate, List.append, List.cons_append, List.nil_append, List.append_nil, List.getElem?_cons_zero, List.getElem?_cons_succ, List.set_cons_zero, List.set_cons_succ, List.set_nil, Nat.sub_self, Nat.add_one_sub_one, Nat.reduceAdd, Nat.reduceSub, List.replicate_zero, List.replicate_succ, ixD_tup0, ixD_tup1, ixD_enc0, ixD_enc1, two_le_size, true_and, subD, modD, divD, powD, ltD, leD, gtD, geD, dLc, dFor, dYes, dRaise, dMt, dMt0, dSl, dPart, dNoPart, dFmt, dJoined, dJs, dOrT, forD, diSeq, diRng1, diRng2, diEnum, diZip2, diZip3, dWhile, dLenSet, bindP, bindPs, wipeD, dListRng, gdStar, gdSub, List.map_cons, List.map_nil, eqD_ii, eqD_ss, eqD_bb, neD_ii, neD_ss, neD_bb, truD_bl, truD_int, truD_non, truD_str, truD_tup, truD_rol, isB_bl, walkD_tup, walkD_rol, walkD_str, lenD_str, lenD_tupE, lenD_rolE, rdI_ii, addD_ii, addD_ss, addD_tt, mulD_ii, absD_i, maxD_ii, minD_ii, divmodD_ii, strD_i, intD_s, isND_nn, zero_le_size, List.length_cons, List.length_nil, lit_weight, str1, tx_length]
  have L1 : Less G (gupd (gupd G p (.lst (((headL W :: (seats.map seatL ++ [[]])).map tx).map D.str))) q (.lst (((seats.map seatL ++ [[]]).map tx).map D.str))) := (Less.new (.refl G) hp).new hq
  refine ⟨rfl, by simp [headL, sizeLine_eq]; omega, ?_⟩
  rw [removeprefix_tx]
  have e1 : (if (headL W).take [119, 101, 105, 103, 104, 116, 32].length = [119, 101, 105, 103, 104, 116, 32] then (headL W).drop [119, 101, 105, 103, 104, 116, 32].length else headL W) = numZ W := by simp [headL]
  rw [e1]
  refine ⟨_, rfl, by omega, ?_⟩
  rw [← numZ_pt, rdP_ptL _ (by rw [numZ_pt]; omega)]
  simp only [dSeq, dNext, dRet, dRetN, dIfS, dDrop, dAsg, gdName, gdTup, gdNil, gdCons, dPar, dVar, dC, dOp, dCB, dCall, dCons, dNil, dTup, dLst, dB, dNot, dTru, dAnd, dOr, dAndV, dOrV, dNotV, dIf, dChain, dNeg, startD, List.map, List.length, List.replicate, List.append, List.cons_append, List.nil_append, List.append_nil, List.getElem?_cons_zero, List.getElem?_cons_succ, List.set_cons_zero, List.set_cons_succ, List.set_nil, Nat.sub_self, Nat.add_one_sub_one, Nat.reduceAdd, Nat.reduceSub, List.replicate_zero, List.replicate_succ, ixD_tup0, ixD_tup1, ixD_enc0, ixD_enc1, two_le_size, true_and, subD, modD, divD, powD, ltD, leD, gtD, geD, dLc, dFor, dYes, dRaise, dMt, dMt0, dSl, dPart, dNoPart, dFmt, dJoined, dJs, dOrT, forD, diSeq, diRng1, diRng2, diEnum, diZip2, diZip3, dWhile, dLenSet, bindP, bindPs, wipeD, dListRng, gdStar, gdSub, List.map_cons, List.map_nil, eqD_ii, eqD_ss, eqD_bb, neD_ii, neD_ss, neD_bb, truD_bl, truD_int, truD_non, truD_str, truD_tup, truD_rol, isB_bl, walkD_tup, walkD_rol, walkD_str, lenD_str, lenD_tupE, lenD_rolE, rdI_ii, addD_ii, addD_ss, addD_tt, mulD_ii, absD_i, maxD_ii, minD_ii, divmodD_ii, strD_i, intD_s, isND_nn, zero_le_size, List.length_cons, List.length_nil, enc_int]
  refine slD_lst gupd_same fun r hr => ?_
  have ec : cutD (((seats.map seatL ++ [[]]).map tx).map D.str) none (some (-1)) = seats.map fun s => D.str (tx (seatL s)) := by
    have : ((seats.map seatL ++ [[]]).map tx).map D.str = (seats.map fun s => D.str (tx (seatL s))) ++ [D.str (tx [])] := by simp [Function.comp_def]
    rw [this, cut_last]
  rw [ec]
  refine walkD_lst gupd_same fun l hl' => ?_
  have hlr := gupd_none hl'
  refine lcD_map1 encS hl' (by rw [sizeLine_eq]; omega) (fun acc G2 L2 => L2 _ _ (by rw [gupd_ne hlr.1.symm]; exact gupd_same)) (fun s hs' => ⟨_, rfl, fun acc G2 N L2 h => ?_⟩) (fun G2 L2 => ?_)
  · simp only [dSeq, dNext, dRet, dRetN, dIfS, dDrop, dAsg, gdName, gdTup, gdNil, gdCons, dPar, dVar, dC, dOp, dCB, dCall, dCons, dNil, dTup, dLst, dB, dNot, dTru, dAnd, dOr, dAndV, dOrV, dNotV, dIf, dChain, dNeg, startD, List.map, List.length, List.replicate, List.append, List.cons_append, List.nil_append, List.append_nil, List.getElem?_cons_zero, List.getElem?_cons_succ, List.set_cons_zero, List.set_cons_succ, List.set_nil, Nat.sub_self, Nat.add_one_sub_one, Nat.reduceAdd, Nat.reduceSub, List.replicate_zero, List.replicate_succ, ixD_tup0, ixD_tup1, ixD_enc0, ixD_enc1, two_le_size, true_and, subD, modD, divD, powD, ltD, leD, gtD, geD, dLc, dFor, dYes, dRaise, dMt, dMt0, dSl, dPart, dNoPart, dFmt, dJoined, dJs, dOrT, forD, diSeq, diRng1, diRng2, diEnum, diZip2, diZip3, dWhile, dLenSet, bindP, bindPs, wipeD, dListRng, gdStar, gdSub, List.map_cons, List.map_nil, eqD_ii, eqD_ss, eqD_bb, neD_ii, neD_ss, neD_bb, truD_bl, truD_int, truD_non, truD_str, truD_tup, truD_rol, isB_bl, walkD_tup, walkD_rol, walkD_str, lenD_str, lenD_tupE, lenD_rolE, rdI_ii, addD_ii, addD_ss, addD_tt, mulD_ii, absD_i, maxD_ii, minD_ii, divmodD_ii, strD_i, intD_s, isND_nn, zero_le_size, List.length_cons, List.length_nil, sp_seat_read, sp1]
    have := ptL_len (k := 100) (by decide) (hs.s s hs').1
    exact ⟨s, rfl, hg.2.1 s hs', by omega, h _ L2⟩
  · refine tupleD_lst L2.at ?_
    have L3 : Less G G2 := ((L1.new hr).new hl').trans L2
    refine ⟨W, seats, rfl, fun s hs' => ⟨(hs.s s hs').1.mono (by decide), by have := (hs.s s hs').2; rw [sizeLine_eq]; omega⟩, by omega, hrk, Nat.lt_of_lt_of_le hs.w (Nat.pow_le_pow_right (by decide) (by decide)), ?_⟩
    rw [decide_eq_true hg]
    simp only [dSeq, dNext, dRet, dRetN, dIfS, dDrop, dAsg, gdName, gdTup, gdNil, gdCons, dPar, dVar, dC, dOp, dCB, dCall, dCons, dNil, dTup, dLst, dB, dNot, dTru, dAnd, dOr, dAndV, dOrV, dNotV, dIf, dChain, dNeg, startD, List.map, List.length, List.replicate, List.append, List.cons_append, List.nil_append, List.append_nil, List.getElem?_cons_zero, List.getElem?_cons_succ, List.set_cons_zero, List.set_cons_succ, List.set_nil, Nat.sub_self, Nat.add_one_sub_one, Nat.reduceAdd, Nat.reduceSub, List.replicate_zero, List.replicate_succ, ixD_tup0, ixD_tup1, ixD_enc0, ixD_enc1, two_le_size, true_and, subD, modD, divD, powD, ltD, leD, gtD, geD, dLc, dFor, dYes, dRaise, dMt, dMt0, dSl, dPart, dNoPart, dFmt, dJoined, dJs, dOrT, forD, diSeq, diRng1, diRng2, diEnum, diZip2, diZip3, dWhile, dLenSet, bindP, bindPs, wipeD, dListRng, gdStar, gdSub, List.map_cons, List.map_nil, eqD_ii, eqD_ss, eqD_bb, neD_ii, neD_ss, neD_bb, truD_bl, truD_int, truD_non, truD_str, truD_tup, truD_rol, isB_bl, walkD_tup, walkD_rol, walkD_str, lenD_str, lenD_tupE, lenD_rolE, rdI_ii, addD_ii, addD_ss, addD_tt, mulD_ii, absD_i, maxD_ii, minD_ii, divmodD_ii, strD_i, intD_s, isND_nn, zero_le_size, List.length_cons, List.length_nil, Bool.not_true, Bool.false_eq_true, if_false, sp_moment_text, sp1]
    refine ⟨W, seats, rfl, hs, ?_⟩
    simp only [dSeq, dNext, dRet, dRetN, dIfS, dDrop, dAsg, gdName, gdTup, gdNil, gdCons, dPar, dVar, dC, dOp, dCB, dCall, dCons, dNil, dTup, dLst, dB, dNot, dTru, dAnd, dOr, dAndV, dOrV, dNotV, dIf, dChain, dNeg, startD, List.map, List.length, List.replicate, List.append, List.cons_append, List.nil_append, List.append_nil, List.getElem?_cons_zero, List.getElem?_cons_succ, List.set_cons_zero, List.set_cons_succ, List.set_nil, Nat.sub_self, Nat.add_one_sub_one, Nat.reduceAdd, Nat.reduceSub, List.replicate_zero, List.replicate_succ, ixD_tup0, ixD_tup1, ixD_enc0, ixD_enc1, two_le_size, true_and, subD, modD, divD, powD, ltD, leD, gtD, geD, dLc, dFor, dYes, dRaise, dMt, dMt0, dSl, dPart, dNoPart, dFmt, dJoined, dJs, dOrT, forD, diSeq, diRng1, diRng2, diEnum, diZip2, diZip3, dWhile, dLenSet, bindP, bindPs, wipeD, dListRng, gdStar, gdSub, List.map_cons, List.map_nil, eqD_ii, eqD_ss, eqD_bb, neD_ii, neD_ss, neD_bb, truD_bl, truD_int, truD_non, truD_str, truD_tup, truD_rol, isB_bl, walkD_tup, walkD_rol, walkD_str, lenD_str, lenD_tupE, lenD_rolE, rdI_ii, addD_ii, addD_ss, addD_tt, mulD_ii, absD_i, maxD_ii, minD_ii, divmodD_ii, strD_i, intD_s, isND_nn, zero_le_size, List.length_cons, List.length_nil, decide_true, Bool.not_true, Bool.false_eq_true, if_false]
    exact Fo.mk L3 hQ

end
end Q
set_option maxHeartbeats 4000000
namespace Q
open PySem PySem.Spec PyProof.Rows L2

section
variable {P : Program} {w : World} {K : PySem.W.Frag} {mg : Str → Option Value} {base : Heap}
def sp__law_pot : DSp := sp2 fun a b G Q _ => ∃ (ns : List Int) (k : Nat), a = .rol (ns.map D.int) ∧ b = .int k ∧ ns.length ≤ 63 ∧ k < 100 ∧ ∀ q x y, PotA x y → G q = none → Q (.ref q) (gupd G q (potO x y))
abbrev s__law_pot : Stmt := topS 43
abbrev N__law_pot : List Str := ["script", "k", "cell"]
theorem sc__law_pot : FnScope N__law_pot ["script", "k"] (defScope s__law_pot) := ⟨rfl, rfl, rfl, by decide +kernel, rfl, by decide +kernel, by decide +kernel⟩
theorem ok__law_pot (F : FunH K mg "_law_pot" s__law_pot) (T : Tx K mg)  : Has P w K mg base 1 "_law_pot" 2 [] sp__law_pot := by
  refine Has.ofF F sc__law_pot (fun _ _ _ _ _ _ us hl => match us, hl with | [_, _], _ => rfl) len2 fun f cdv A outer s H E ds G Q Ed B hp h => ⟨_, (s_cons (s_set 2 sc__law_pot.nd d_int)
 (s_cons (s_if (d_tcmp o_lt (d_var 1) (d_callB c_len T.b.len boot_len (a_cons (d_var 0) a_nil))) (s_one (s_set 2 sc__law_pot.nd (d_callB c_abs T.b.abs boot_abs (a_cons (d_ix (d_var 0) (d_var 1)) a_nil)))) s_nil)
 (s_one (s_ret (d_lst (a_cons (d_callB (c_max B.hc) T.b.max boot_max (a_cons d_int (a_cons (d_op o_sub (d_var 2) (d_op o_pow d_int d_int)) a_nil))) (a_cons (d_op o_add (d_op o_mod (d_op o_pow (d_op o_add (d_op o_add (d_op o_mod (d_var 2) d_int) (d_op o_mul d_int (d_var 1))) d_int) d_int) d_int) d_int) a_nil))))))), ?_⟩

  obtain ⟨a, b, rfl, ns, k, rfl, rfl, hn, hk, hQ⟩ := sp2_ex h
  have hk2 : ((k : Nat) : Int) < 100 := by omega
  have c1 : CPow 10 18 := ⟨by decide, by decide, by decide⟩
  have m1 : MulOk 89 (k : Nat) := .inl (.inl ⟨by decide, by decide⟩)
  have c2 : ∀ c : Int, CPow (c % 2147483423 + 89 * (k : Nat) + 7) 2 := fun c => by
    have h1 := Int.emod_nonneg c (show (2147483423 : Int) ≠ 0 by decide)
    have h2 := Int.emod_lt_of_pos c (show (0 : Int) < 2147483423 by decide)
    exact ⟨by decide, by decide, by omega⟩
  have hQ2 : ∀ (c z : Int), 0 ≤ z → ∀ q, G q = none → Fo Q (.ref q) (gupd G q (.lst [.int z, .int ((c % 2147483423 + 89 * (k : Nat) + 7) ^ (2 : Int).toNat % 2147483399 + 1)])) := fun c z hz q hq => by
    have h1 := Int.emod_nonneg ((c % 2147483423 + 89 * (k : Nat) + 7) ^ (2 : Int).toNat) (show (2147483399 : Int) ≠ 0 by decide)
    have h2 := Int.emod_lt_of_pos ((c % 2147483423 + 89 * (k : Nat) + 7) ^ (2 : Int).toNat) (show (0 : Int) < 2147483399 by decide)
    exact fo0 (hQ q _ _ ⟨hz, by omega, by omega⟩ hq)
  simp only [dSeq, dNext, dRet, dRetN, dIfS, dDrop, dAsg, gdName, gdTup, gdNil, gdCons, dPar, dVar, dC, dOp, dCB, dCall, dCons, dNil, dTup, dLst, dB, dNot, dTru, dAnd, dOr, dAndV, dOrV, dNotV, dIf, dChain, dNeg, startD, List.map, List.length, List.replicate, List.append, List.cons_append, List.nil_append, List.append_nil, List.getElem?_cons_zero, List.getElem?_cons_succ, List.set_cons_zero, List.set_cons_succ, List.set_nil, Nat.sub_self, Nat.add_one_sub_one, Nat.reduceAdd, Nat.reduceSub, List.replicate_zero, List.replicate_succ, ixD_tup0, ixD_tup1, ixD_enc0, ixD_enc1, two_le_size, true_and, subD, modD, divD, powD, ltD, leD, gtD, geD, dLc, dFor, dYes, dRaise, dMt, dMt0, dSl, dPart, dNoPart, dFmt, dJoined, dJs, dOrT, forD, diSeq, diRng1, diRng2, diEnum, diZip2, diZip3, dWhile, dLenSet, bindP, bindPs, wipeD, dListRng, gdStar, gdSub, List.map_cons, List.map_nil, eqD_ii, eqD_ss, eqD_bb, neD_ii, neD_ss, neD_bb, truD_bl, truD_int, truD_non, truD_str, truD_tup, truD_rol, isB_bl, walkD_tup, walkD_rol, walkD_str, lenD_str, lenD_tupE, lenD_rolE, rdI_ii, addD_ii, addD_ss, addD_tt, mulD_ii, absD_i, maxD_ii, minD_ii, divmodD_ii, strD_i, intD_s, isND_nn, zero_le_size, List.length_cons, List.length_nil]
  by_cases hi : ((k : Nat) : Int) < ((ns.map D.int).length : Nat)
  · rw [if_pos (by simpa using hi)]
    have hi' : k < ns.length := by simp at hi; omega
    refine ixD_seq (x := .rol _) rfl (d := .int ns[k]) (by simp [hi']) ?_
    simp only [dSeq, dNext, dRet, dRetN, dIfS, dDrop, dAsg, gdName, gdTup, gdNil, gdCons, dPar, dVar, dC, dOp, dCB, dCall, dCons, dNil, dTup, dLst, dB, dNot, dTru, dAnd, dOr, dAndV, dOrV, dNotV, dIf, dChain, dNeg, startD, List.map, List.length, List.replicate, List.append, List.cons_append, List.nil_append, List.append_nil, List.getElem?_cons_zero, List.getElem?_cons_succ, List.set_cons_zero, List.set_cons_succ, List.set_nil, Nat.sub_self, Nat.add_one_sub_one, Nat.reduceAdd, Nat.reduceSub, List.replicate_zero, List.replicate_succ, ixD_tup0, ixD_tup1, ixD_enc0, ixD_enc1, two_le_size, true_and, subD, modD, divD, powD, ltD, leD, gtD, geD, dLc, dFor, dYes, dRaise, dMt, dMt0, dSl, dPart, dNoPart, dFmt, dJoined, dJs, dOrT, forD, diSeq, diRng1, diRng2, diEnum, diZip2, diZip3, dWhile, dLenSet, bindP, bindPs, wipeD, dListRng, gdStar, gdSub, List.map_cons, List.map_nil, eqD_ii, eqD_ss, eqD_bb, neD_ii, neD_ss, neD_bb, truD_bl, truD_int, truD_non, truD_str, truD_tup, truD_rol, isB_bl, walkD_tup, walkD_rol, walkD_str, lenD_str, lenD_tupE, lenD_rolE, rdI_ii, addD_ii, addD_ss, addD_tt, mulD_ii, absD_i, maxD_ii, minD_ii, divmodD_ii, strD_i, intD_s, isND_nn, zero_le_size, List.length_cons, List.length_nil]
    refine ⟨c1, by decide, m1, c2 _, by decide, hQ2 _ _ ?_⟩
    split <;> omega
  · rw [if_neg (by simpa using hi)]
    refine ⟨c1, by decide, m1, c2 _, by decide, hQ2 _ _ ?_⟩
    split <;> omega

def sp__law_digit : DSp := sp2 fun a b G Q _ => ∃ (p : Addr) (n : Int), a = .ref p ∧ b = .int n ∧ Pot G p ∧ 0 < n ∧ n < 2 ^ 4000 ∧ ∀ d G2, 0 ≤ d → d < n → Pl p G G2 → Q (.int d) G2
abbrev s__law_digit : Stmt := topS 44
abbrev N__law_digit : List Str := ["pot", "many", "digit"]
theorem sc__law_digit : FnScope N__law_digit ["pot", "many"] (defScope s__law_digit) := ⟨rfl, rfl, rfl, by decide +kernel, rfl, by decide +kernel, by decide +kernel⟩
theorem ok__law_digit (F : FunH K mg "_law_digit" s__law_digit) (T : Tx K mg)  : Has P w K mg base 1 "_law_digit" 2 [] sp__law_digit := by
  refine Has.ofF F sc__law_digit (fun _ _ _ _ _ _ us hl => match us, hl with | [_, _], _ => rfl) len2 fun f cdv A outer s H E ds G Q Ed B hp h => ⟨_, (s_cons (s_if (d_tcmp o_gt (d_ix (d_var 0) d_int) d_int) (s_cons (s_asg (d_callB c_divmod T.b.divmod boot_divmod (a_cons (d_ix (d_var 0) d_int) (a_cons (d_var 1) a_nil))) (g_tup (n := 2) B.hc (gs_cons (g_sub (d_var 0) d_int) (gs_cons (g_name (i := 2) sc__law_digit.nd) gs_nil))))
 (s_one (s_ret (d_var 2)))) s_nil)
 (s_cons (s_asg (d_op o_mod (d_op o_add (d_op o_mul (d_ix (d_var 0) d_int) d_int) d_int) d_int) (g_sub (d_var 0) d_int))
 (s_one (s_ret (d_op o_mod (d_op o_div (d_op o_mod (d_op o_mul (d_ix (d_var 0) d_int) (d_ix (d_var 0) d_int)) d_int) d_int) (d_var 1)))))), ?_⟩

  obtain ⟨a, b, rfl, p, n, rfl, rfl, hp, h0, hn, hQ⟩ := sp2_ex h
  obtain ⟨x, y, hG, hx, hy, hy2⟩ := id hp
  have hn9 : n.natAbs < 2 ^ 4000 := by
    have e : ((2 ^ 4000 : Nat) : Int) = 2 ^ 4000 := by simp
    have : ((n.natAbs : Nat) : Int) < ((2 ^ 4000 : Nat) : Int) := by rw [e]; omega
    exact Int.ofNat_lt.mp this
  simp only [dSeq, dNext, dRet, dRetN, dIfS, dDrop, dAsg, gdName, gdTup, gdNil, gdCons, dPar, dVar, dC, dOp, dCB, dCall, dCons, dNil, dTup, dLst, dB, dNot, dTru, dAnd, dOr, dAndV, dOrV, dNotV, dIf, dChain, dNeg, startD, List.map, List.length, List.replicate, List.append, List.cons_append, List.nil_append, List.append_nil, List.getElem?_cons_zero, List.getElem?_cons_succ, List.set_cons_zero, List.set_cons_succ, List.set_nil, Nat.sub_self, Nat.add_one_sub_one, Nat.reduceAdd, Nat.reduceSub, List.replicate_zero, List.replicate_succ, ixD_tup0, ixD_tup1, ixD_enc0, ixD_enc1, two_le_size, true_and, subD, modD, divD, powD, ltD, leD, gtD, geD, dLc, dFor, dYes, dRaise, dMt, dMt0, dSl, dPart, dNoPart, dFmt, dJoined, dJs, dOrT, forD, diSeq, diRng1, diRng2, diEnum, diZip2, diZip3, dWhile, dLenSet, bindP, bindPs, wipeD, dListRng, gdStar, gdSub, List.map_cons, List.map_nil, eqD_ii, eqD_ss, eqD_bb, neD_ii, neD_ss, neD_bb, truD_bl, truD_int, truD_non, truD_str, truD_tup, truD_rol, isB_bl, walkD_tup, walkD_rol, walkD_str, lenD_str, lenD_tupE, lenD_rolE, rdI_ii, addD_ii, addD_ss, addD_tt, mulD_ii, absD_i, maxD_ii, minD_ii, divmodD_ii, strD_i, intD_s, isND_nn, zero_le_size, List.length_cons, List.length_nil]
  refine ixD_ref (i := 0) hG rfl ?_
  simp only [dSeq, dNext, dRet, dRetN, dIfS, dDrop, dAsg, gdName, gdTup, gdNil, gdCons, dPar, dVar, dC, dOp, dCB, dCall, dCons, dNil, dTup, dLst, dB, dNot, dTru, dAnd, dOr, dAndV, dOrV, dNotV, dIf, dChain, dNeg, startD, List.map, List.length, List.replicate, List.append, List.cons_append, List.nil_append, List.append_nil, List.getElem?_cons_zero, List.getElem?_cons_succ, List.set_cons_zero, List.set_cons_succ, List.set_nil, Nat.sub_self, Nat.add_one_sub_one, Nat.reduceAdd, Nat.reduceSub, List.replicate_zero, List.replicate_succ, ixD_tup0, ixD_tup1, ixD_enc0, ixD_enc1, two_le_size, true_and, subD, modD, divD, powD, ltD, leD, gtD, geD, dLc, dFor, dYes, dRaise, dMt, dMt0, dSl, dPart, dNoPart, dFmt, dJoined, dJs, dOrT, forD, diSeq, diRng1, diRng2, diEnum, diZip2, diZip3, dWhile, dLenSet, bindP, bindPs, wipeD, dListRng, gdStar, gdSub, List.map_cons, List.map_nil, eqD_ii, eqD_ss, eqD_bb, neD_ii, neD_ss, neD_bb, truD_bl, truD_int, truD_non, truD_str, truD_tup, truD_rol, isB_bl, walkD_tup, walkD_rol, walkD_str, lenD_str, lenD_tupE, lenD_rolE, rdI_ii, addD_ii, addD_ss, addD_tt, mulD_ii, absD_i, maxD_ii, minD_ii, divmodD_ii, strD_i, intD_s, isND_nn, zero_le_size, List.length_cons, List.length_nil]
  by_cases hc : 0 < x
  · rw [if_pos (by simpa using hc)]
    refine ixD_ref (i := 0) hG rfl ?_
    simp only [dSeq, dNext, dRet, dRetN, dIfS, dDrop, dAsg, gdName, gdTup, gdNil, gdCons, dPar, dVar, dC, dOp, dCB, dCall, dCons, dNil, dTup, dLst, dB, dNot, dTru, dAnd, dOr, dAndV, dOrV, dNotV, dIf, dChain, dNeg, startD, List.map, List.length, List.replicate, List.append, List.cons_append, List.nil_append, List.append_nil, List.getElem?_cons_zero, List.getElem?_cons_succ, List.set_cons_zero, List.set_cons_succ, List.set_nil, Nat.sub_self, Nat.add_one_sub_one, Nat.reduceAdd, Nat.reduceSub, List.replicate_zero, List.replicate_succ, ixD_tup0, ixD_tup1, ixD_enc0, ixD_enc1, two_le_size, true_and, subD, modD, divD, powD, ltD, leD, gtD, geD, dLc, dFor, dYes, dRaise, dMt, dMt0, dSl, dPart, dNoPart, dFmt, dJoined, dJs, dOrT, forD, diSeq, diRng1, diRng2, diEnum, diZip2, diZip3, dWhile, dLenSet, bindP, bindPs, wipeD, dListRng, gdStar, gdSub, List.map_cons, List.map_nil, eqD_ii, eqD_ss, eqD_bb, neD_ii, neD_ss, neD_bb, truD_bl, truD_int, truD_non, truD_str, truD_tup, truD_rol, isB_bl, walkD_tup, walkD_rol, walkD_str, lenD_str, lenD_tupE, lenD_rolE, rdI_ii, addD_ii, addD_ss, addD_tt, mulD_ii, absD_i, maxD_ii, minD_ii, divmodD_ii, strD_i, intD_s, isND_nn, zero_le_size, List.length_cons, List.length_nil]
    refine ⟨divOk_of h0 hn9, p, 0, _, 0, rfl, rfl, hG, rfl, ?_⟩
    refine fo0 (hQ _ _ (Int.emod_nonneg _ (by omega)) (Int.emod_lt_of_pos _ h0) ?_)
    exact (Pl.refl hp).set ⟨Int.ediv_nonneg hx (by omega), hy, hy2⟩
  · rw [if_neg (by simpa using hc)]
    refine ixD_ref (i := 1) hG rfl ?_
    simp only [dSeq, dNext, dRet, dRetN, dIfS, dDrop, dAsg, gdName, gdTup, gdNil, gdCons, dPar, dVar, dC, dOp, dCB, dCall, dCons, dNil, dTup, dLst, dB, dNot, dTru, dAnd, dOr, dAndV, dOrV, dNotV, dIf, dChain, dNeg, startD, List.map, List.length, List.replicate, List.append, List.cons_append, List.nil_append, List.append_nil, List.getElem?_cons_zero, List.getElem?_cons_succ, List.set_cons_zero, List.set_cons_succ, List.set_nil, Nat.sub_self, Nat.add_one_sub_one, Nat.reduceAdd, Nat.reduceSub, List.replicate_zero, List.replicate_succ, ixD_tup0, ixD_tup1, ixD_enc0, ixD_enc1, two_le_size, true_and, subD, modD, divD, powD, ltD, leD, gtD, geD, dLc, dFor, dYes, dRaise, dMt, dMt0, dSl, dPart, dNoPart, dFmt, dJoined, dJs, dOrT, forD, diSeq, diRng1, diRng2, diEnum, diZip2, diZip3, dWhile, dLenSet, bindP, bindPs, wipeD, dListRng, gdStar, gdSub, List.map_cons, List.map_nil, eqD_ii, eqD_ss, eqD_bb, neD_ii, neD_ss, neD_bb, truD_bl, truD_int, truD_non, truD_str, truD_tup, truD_rol, isB_bl, walkD_tup, walkD_rol, walkD_str, lenD_str, lenD_tupE, lenD_rolE, rdI_ii, addD_ii, addD_ss, addD_tt, mulD_ii, absD_i, maxD_ii, minD_ii, divmodD_ii, strD_i, intD_s, isND_nn, zero_le_size, List.length_cons, List.length_nil]
    have h1 := Int.emod_nonneg (y * 45763 + 10061) (show (2147483563 : Int) ≠ 0 by decide)
    have h2 := Int.emod_lt_of_pos (y * 45763 + 10061) (show (0 : Int) < 2147483563 by decide)
    refine ⟨.inl (.inr ⟨by decide, by decide⟩), by decide, p, 1, _, 1, rfl, rfl, hG, rfl, ?_⟩
    refine ixD_ref (i := 1) gupd_same rfl (ixD_ref (i := 1) gupd_same rfl ?_)
    simp only [dSeq, dNext, dRet, dRetN, dIfS, dDrop, dAsg, gdName, gdTup, gdNil, gdCons, dPar, dVar, dC, dOp, dCB, dCall, dCons, dNil, dTup, dLst, dB, dNot, dTru, dAnd, dOr, dAndV, dOrV, dNotV, dIf, dChain, dNeg, startD, List.map, List.length, List.replicate, List.append, List.cons_append, List.nil_append, List.append_nil, List.getElem?_cons_zero, List.getElem?_cons_succ, List.set_cons_zero, List.set_cons_succ, List.set_nil, Nat.sub_self, Nat.add_one_sub_one, Nat.reduceAdd, Nat.reduceSub, List.replicate_zero, List.replicate_succ, ixD_tup0, ixD_tup1, ixD_enc0, ixD_enc1, two_le_size, true_and, subD, modD, divD, powD, ltD, leD, gtD, geD, dLc, dFor, dYes, dRaise, dMt, dMt0, dSl, dPart, dNoPart, dFmt, dJoined, dJs, dOrT, forD, diSeq, diRng1, diRng2, diEnum, diZip2, diZip3, dWhile, dLenSet, bindP, bindPs, wipeD, dListRng, gdStar, gdSub, List.map_cons, List.map_nil, eqD_ii, eqD_ss, eqD_bb, neD_ii, neD_ss, neD_bb, truD_bl, truD_int, truD_non, truD_str, truD_tup, truD_rol, isB_bl, walkD_tup, walkD_rol, walkD_str, lenD_str, lenD_tupE, lenD_rolE, rdI_ii, addD_ii, addD_ss, addD_tt, mulD_ii, absD_i, maxD_ii, minD_ii, divmodD_ii, strD_i, intD_s, isND_nn, zero_le_size, List.length_cons, List.length_nil]
    refine ⟨.inl (.inl ⟨by omega, by omega⟩), by decide, divOk_of (b := 10) (by decide) (by decide), h0, ?_⟩
    refine fo0 (hQ _ _ (Int.emod_nonneg _ (by omega)) (Int.emod_lt_of_pos _ h0) ?_)
    exact (Pl.refl hp).set ⟨hx, h1, by omega⟩

end
end Q
set_option maxHeartbeats 4000000
namespace Q
open PySem PySem.Spec PyProof.Rows L2

section
variable {P : Program} {w : World} {K : PySem.W.Frag} {mg : Str → Option Value} {base : Heap}
def sp__law_name : DSp := sp2 fun a b G Q _ => ∃ (p u : Addr) (us : List (List Nat)), a = .ref p ∧ b = .ref u ∧ Pot G p ∧ G u = some (.lst (txs us)) ∧ us.length ≤ 20 ∧ ∀ n G2, nmOk n → n ∉ us → Pl p G G2 → Q (.str (tx n)) G2
abbrev s__law_name : Stmt := topS 46
abbrev N__law_name : List Str := ["pot", "used", "letters", "name", "k", "some", "one"]
theorem sc__law_name : FnScope N__law_name ["pot", "used"] (defScope s__law_name) := ⟨rfl, rfl, rfl, by decide +kernel, rfl, by decide +kernel, by decide +kernel⟩
theorem ok__law_name (F : FunH K mg "_law_name" s__law_name) (T : Tx K mg) (h__law_digit : Has P w K mg base 1 "_law_digit" 2 [] sp__law_digit) : Has P w K mg base 2 "_law_name" 2 [] sp__law_name := by
  refine Has.ofF F sc__law_name (fun _ _ _ _ _ _ us hl => match us, hl with | [_, _], _ => rfl) len2 fun f cdv A outer s H E ds G Q Ed B hp h => ⟨_, (s_cons (s_set 2 sc__law_name.nd d_str)
 (s_cons (s_set 3 sc__law_name.nd (d_mt m_join PySem.F.plainAttrs_str PySem.F.slot_str_join PySem.F.type_str_join d_str (a_cons (d_lc (own := [("k", 4)]) (p := .nm 4) B.hc sc__law_name.nd (blkOk_by (own := [("k", 4)]) (N := N__law_name) (by kernel_rfl)) (by decide) (i_rng1 T.b.range (a_cons (d_ix (d_lst (a_cons d_int (a_cons d_int (a_cons d_int (a_cons d_int a_nil))))) (d_call h__law_digit B (a_cons (d_var 0) (a_cons d_int a_nil)))) a_nil)) (fun s3 H3 C3 cl3 fp3 => (p_name (i := 4) sc__law_name.nd)) (fun s3 H3 C3 cl3 fp3 => ts_nil) (fun s3 H3 C3 cl3 fp3 => (d_ix (d_var 2) (d_call h__law_digit (B.blk s3 H3 _ _ fp3) (a_cons (d_var 0) (a_cons d_int a_nil)))))) a_nil)))
 (s_cons (s_if (d_tcmp o_in (d_var 3) (d_var 1)) (s_cons (s_set 5 sc__law_name.nd (d_op o_add (d_lc (own := [("one", 6)]) (p := .nm 6) B.hc sc__law_name.nd (blkOk_by (own := [("one", 6)]) (N := N__law_name) (by kernel_rfl)) (by decide) (i_seq (d_var 2)) (fun s1 H1 C1 cl1 fp1 => (p_name (i := 6) sc__law_name.nd)) (fun s1 H1 C1 cl1 fp1 => (ts_one (d_tcmp o_notin (d_var 6) (d_var 1)))) (fun s1 H1 C1 cl1 fp1 => (d_var 6))) (d_lc (own := [("one", 6)]) (p := .nm 6) B.hc sc__law_name.nd (blkOk_by (own := [("one", 6)]) (N := N__law_name) (by kernel_rfl)) (by decide) (i_seq (d_var 2)) (fun s2 H2 C2 cl2 fp2 => (p_name (i := 6) sc__law_name.nd)) (fun s2 H2 C2 cl2 fp2 => (ts_one (d_tcmp o_notin (d_op o_add (d_var 6) d_str) (d_var 1)))) (fun s2 H2 C2 cl2 fp2 => (d_op o_add (d_var 6) d_str)))))
 (s_one (s_ret (d_ix (d_var 5) d_int)))) s_nil)
 (s_one (s_ret (d_var 3)))))), ?_⟩

  obtain ⟨a, b, rfl, p, u, us, rfl, rfl, hp, hu, hl, hQ⟩ := sp2_ex h
  have hup := strs_pot hu hp
  simp only [dSeq, dNext, dRet, dRetN, dIfS, dDrop, dAsg, gdName, gdTup, gdNil, gdCons, dPar, dVar, dC, dOp, dCB, dCall, dCons, dNil, dTup, dLst, dB, dNot, dTru, dAnd, dOr, dAndV, dOrV, dNotV, dIf, dChain, dNeg, startD, List.map, List.length, List.replicate, List.append, List.cons_append, List.nil_append, List.append_nil, List.getElem?_cons_zero, List.getElem?_cons_succ, List.set_cons_zero, List.set_cons_succ, List.set_nil, Nat.sub_self, Nat.add_one_sub_one, Nat.reduceAdd, Nat.reduceSub, List.replicate_zero, List.replicate_succ, ixD_tup0, ixD_tup1, ixD_enc0, ixD_enc1, two_le_size, true_and, subD, modD, divD, powD, ltD, leD, gtD, geD, dLc, dFor, dYes, dRaise, dMt, dMt0, dSl, dPart, dNoPart, dFmt, dJoined, dJs, dOrT, forD, diSeq, diRng1, diRng2, diEnum, diZip2, diZip3, dWhile, dLenSet, bindP, bindPs, wipeD, dListRng, gdStar, gdSub, List.map_cons, List.map_nil, eqD_ii, eqD_ss, eqD_bb, neD_ii, neD_ss, neD_bb, truD_bl, truD_int, truD_non, truD_str, truD_tup, truD_rol, isB_bl, walkD_tup, walkD_rol, walkD_str, lenD_str, lenD_tupE, lenD_rolE, rdI_ii, addD_ii, addD_ss, addD_tt, mulD_ii, absD_i, maxD_ii, minD_ii, divmodD_ii, strD_i, intD_s, isND_nn, zero_le_size, List.length_cons, List.length_nil, sp__law_digit, sp2, lit_letters, lit_empty]
  refine ⟨rfl, by rw [sizeLine_eq]; decide, fun q hq => ?_⟩
  have L0 : Pl p G (gupd G q (.lst [.int 1, .int 2, .int 3, .int 8])) := (Pl.refl hp).new hq
  refine ⟨p, 4, rfl, rfl, L0.pot, by decide, by decide, fun d G2 h0 h4 L1 => ?_⟩
  have hqp : q ≠ p := fun z => by subst z; obtain ⟨o, e⟩ := hp.some; rw [hq] at e; cases e
  refine ixD_pick (L1.old q _ hqp gupd_same) h0 (by simpa using h4) fun x hx => ?_
  obtain ⟨j, rfl, hj1, hj8⟩ : ∃ j : Int, x = .int j ∧ 1 ≤ j ∧ j ≤ 8 := by
    simp at hx
    rcases hx with rfl | rfl | rfl | rfl <;> exact ⟨_, rfl, by decide, by decide⟩
  have L2 := L0.trans L1
  refine ⟨by omega, fun l hl' => ?_⟩
  have hlp : l ≠ p := fun z => by subst z; obtain ⟨o, e⟩ := L2.pot.some; rw [hl'] at e; cases e
  have hlG : G l = none := L2.free hp.some hl'
  refine lcD_inv (fun i acc G' => Pl p G G' ∧ G' l = some (.lst acc) ∧ ∃ cs : List Nat, acc = cs.map (fun c => D.str (tx [c])) ∧ cs.length = i ∧ ∀ c ∈ cs, c ∈ abc) ⟨L2.put hlG hlp, gupd_same, [], rfl, rfl, by simp⟩ (by rw [rangeD_length, sizeLine_eq]; omega) ?_ ?_
  · rintro i d acc G' hd hai ⟨L, ha, cs, rfl, hci, hcs⟩
    obtain ⟨hi, rfl⟩ := rangeD_at hd
    refine ⟨trivial, _, rfl, fun N M hN _ => ?_⟩
    simp only [dSeq, dNext, dRet, dRetN, dIfS, dDrop, dAsg, gdName, gdTup, gdNil, gdCons, dPar, dVar, dC, dOp, dCB, dCall, dCons, dNil, dTup, dLst, dB, dNot, dTru, dAnd, dOr, dAndV, dOrV, dNotV, dIf, dChain, dNeg, startD, List.map, List.length, List.replicate, List.append, List.cons_append, List.nil_append, List.append_nil, List.getElem?_cons_zero, List.getElem?_cons_succ, List.set_cons_zero, List.set_cons_succ, List.set_nil, Nat.sub_self, Nat.add_one_sub_one, Nat.reduceAdd, Nat.reduceSub, List.replicate_zero, List.replicate_succ, ixD_tup0, ixD_tup1, ixD_enc0, ixD_enc1, two_le_size, true_and, subD, modD, divD, powD, ltD, leD, gtD, geD, dLc, dFor, dYes, dRaise, dMt, dMt0, dSl, dPart, dNoPart, dFmt, dJoined, dJs, dOrT, forD, diSeq, diRng1, diRng2, diEnum, diZip2, diZip3, dWhile, dLenSet, bindP, bindPs, wipeD, dListRng, gdStar, gdSub, List.map_cons, List.map_nil, eqD_ii, eqD_ss, eqD_bb, neD_ii, neD_ss, neD_bb, truD_bl, truD_int, truD_non, truD_str, truD_tup, truD_rol, isB_bl, walkD_tup, walkD_rol, walkD_str, lenD_str, lenD_tupE, lenD_rolE, rdI_ii, addD_ii, addD_ss, addD_tt, mulD_ii, absD_i, maxD_ii, minD_ii, divmodD_ii, strD_i, intD_s, isND_nn, zero_le_size, List.length_cons, List.length_nil]
    refine ⟨p, 26, rfl, rfl, L.pot, by decide, by decide, fun d G3 h0 h26 L3 => ?_⟩
    refine ixD_txt (l := abc) (by rw [sizeLine_eq]; decide) h0 h26 fun c hc => ?_
    have h3 := L3.old l _ hlp ha
    refine hN _ _ h3 ⟨(L.trans L3).put hlG hlp, gupd_same, cs ++ [c], by simp, by simp [hci], fun x hx => ?_⟩
    rcases List.mem_append.mp hx with hx | hx
    · exact hcs x hx
    · rw [List.mem_singleton.mp hx]; exact hc
  · rintro acc G' ⟨L, ha, cs, rfl, hci, hcs⟩
    rw [rangeD_length] at hci
    refine ⟨trivial, joinD_ones ha (by omega) ?_⟩
    have hnm : nmOk cs := ⟨by rintro rfl; simp at hci; omega, by omega, fun c hc => abc_ok (hcs c hc)⟩
    have hu' : G' u = some (.lst (txs us)) := L.old u _ hup hu
    refine inD_strs hu' ?_
    simp only [dSeq, dNext, dRet, dRetN, dIfS, dDrop, dAsg, gdName, gdTup, gdNil, gdCons, dPar, dVar, dC, dOp, dCB, dCall, dCons, dNil, dTup, dLst, dB, dNot, dTru, dAnd, dOr, dAndV, dOrV, dNotV, dIf, dChain, dNeg, startD, List.map, List.length, List.replicate, List.append, List.cons_append, List.nil_append, List.append_nil, List.getElem?_cons_zero, List.getElem?_cons_succ, List.set_cons_zero, List.set_cons_succ, List.set_nil, Nat.sub_self, Nat.add_one_sub_one, Nat.reduceAdd, Nat.reduceSub, List.replicate_zero, List.replicate_succ, ixD_tup0, ixD_tup1, ixD_enc0, ixD_enc1, two_le_size, true_and, subD, modD, divD, powD, ltD, leD, gtD, geD, dLc, dFor, dYes, dRaise, dMt, dMt0, dSl, dPart, dNoPart, dFmt, dJoined, dJs, dOrT, forD, diSeq, diRng1, diRng2, diEnum, diZip2, diZip3, dWhile, dLenSet, bindP, bindPs, wipeD, dListRng, gdStar, gdSub, List.map_cons, List.map_nil, eqD_ii, eqD_ss, eqD_bb, neD_ii, neD_ss, neD_bb, truD_bl, truD_int, truD_non, truD_str, truD_tup, truD_rol, isB_bl, walkD_tup, walkD_rol, walkD_str, lenD_str, lenD_tupE, lenD_rolE, rdI_ii, addD_ii, addD_ss, addD_tt, mulD_ii, absD_i, maxD_ii, minD_ii, divmodD_ii, strD_i, intD_s, isND_nn, zero_le_size, List.length_cons, List.length_nil]
    by_cases hin : cs ∈ us
    · simp only [hin, decide_true, Bool.false_bne, if_true]
      intro l1 hl1
      have hlz : l1 ≠ p := fun z => by subst z; obtain ⟨o, e⟩ := L.pot.some; rw [hl1] at e; cases e
      simp only [signs_map]
      refine lcD_map (fun c : Nat => if [c] ∈ us then none else some (D.str (tx [c]))) hl1 (by rw [sizeLine_eq]; decide) (fun _ _ _ => trivial) (fun c hc => ⟨_, rfl, fun acc G3 N M L3 h1 h2 => ?_⟩) (fun G3 L3 => ?_)
      · simp only [dSeq, dNext, dRet, dRetN, dIfS, dDrop, dAsg, gdName, gdTup, gdNil, gdCons, dPar, dVar, dC, dOp, dCB, dCall, dCons, dNil, dTup, dLst, dB, dNot, dTru, dAnd, dOr, dAndV, dOrV, dNotV, dIf, dChain, dNeg, startD, List.map, List.length, List.replicate, List.append, List.cons_append, List.nil_append, List.append_nil, List.getElem?_cons_zero, List.getElem?_cons_succ, List.set_cons_zero, List.set_cons_succ, List.set_nil, Nat.sub_self, Nat.add_one_sub_one, Nat.reduceAdd, Nat.reduceSub, List.replicate_zero, List.replicate_succ, ixD_tup0, ixD_tup1, ixD_enc0, ixD_enc1, two_le_size, true_and, subD, modD, divD, powD, ltD, leD, gtD, geD, dLc, dFor, dYes, dRaise, dMt, dMt0, dSl, dPart, dNoPart, dFmt, dJoined, dJs, dOrT, forD, diSeq, diRng1, diRng2, diEnum, diZip2, diZip3, dWhile, dLenSet, bindP, bindPs, wipeD, dListRng, gdStar, gdSub, List.map_cons, List.map_nil, eqD_ii, eqD_ss, eqD_bb, neD_ii, neD_ss, neD_bb, truD_bl, truD_int, truD_non, truD_str, truD_tup, truD_rol, isB_bl, walkD_tup, walkD_rol, walkD_str, lenD_str, lenD_tupE, lenD_rolE, rdI_ii, addD_ii, addD_ss, addD_tt, mulD_ii, absD_i, maxD_ii, minD_ii, divmodD_ii, strD_i, intD_s, isND_nn, zero_le_size, List.length_cons, List.length_nil]
        have hu3 : G3 u = some (.lst (txs us)) := L3 _ _ (by rw [gupd_ne (ne_g hu' hl1)]; exact hu')
        refine inD_strs hu3 ?_
        simp only [dSeq, dNext, dRet, dRetN, dIfS, dDrop, dAsg, gdName, gdTup, gdNil, gdCons, dPar, dVar, dC, dOp, dCB, dCall, dCons, dNil, dTup, dLst, dB, dNot, dTru, dAnd, dOr, dAndV, dOrV, dNotV, dIf, dChain, dNeg, startD, List.map, List.length, List.replicate, List.append, List.cons_append, List.nil_append, List.append_nil, List.getElem?_cons_zero, List.getElem?_cons_succ, List.set_cons_zero, List.set_cons_succ, List.set_nil, Nat.sub_self, Nat.add_one_sub_one, Nat.reduceAdd, Nat.reduceSub, List.replicate_zero, List.replicate_succ, ixD_tup0, ixD_tup1, ixD_enc0, ixD_enc1, two_le_size, true_and, subD, modD, divD, powD, ltD, leD, gtD, geD, dLc, dFor, dYes, dRaise, dMt, dMt0, dSl, dPart, dNoPart, dFmt, dJoined, dJs, dOrT, forD, diSeq, diRng1, diRng2, diEnum, diZip2, diZip3, dWhile, dLenSet, bindP, bindPs, wipeD, dListRng, gdStar, gdSub, List.map_cons, List.map_nil, eqD_ii, eqD_ss, eqD_bb, neD_ii, neD_ss, neD_bb, truD_bl, truD_int, truD_non, truD_str, truD_tup, truD_rol, isB_bl, walkD_tup, walkD_rol, walkD_str, lenD_str, lenD_tupE, lenD_rolE, rdI_ii, addD_ii, addD_ss, addD_tt, mulD_ii, absD_i, maxD_ii, minD_ii, divmodD_ii, strD_i, intD_s, isND_nn, zero_le_size, List.length_cons, List.length_nil]
        by_cases h3 : [c] ∈ us
        · simp [h3]; exact h2 _ (by simp [h3]) L3
        · simp [h3]; exact h1 _ _ (by simp [h3]) L3
      · intro l2 hl2
        have L4 : Less G' G3 := (Less.new (.refl _) hl1).trans L3
        refine lcD_map (fun c : Nat => if [c, 113] ∈ us then none else some (D.str (tx [c, 113]))) hl2 (by rw [sizeLine_eq]; decide) (fun _ _ _ => trivial) (fun c hc => ⟨_, rfl, fun acc G5 N M L5 h1 h2 => ?_⟩) (fun G5 L5 => ?_)
        · have hu5 : G5 u = some (.lst (txs us)) := L5 _ _ (by rw [gupd_ne (ne_g (L4 _ _ hu') hl2)]; exact L4 _ _ hu')
          have e1 : tx [c] ++ Str.ofString "q" = tx [c, 113] := by rw [lit_q]; exact tx_app [c] [113]
          simp only [dSeq, dNext, dRet, dRetN, dIfS, dDrop, dAsg, gdName, gdTup, gdNil, gdCons, dPar, dVar, dC, dOp, dCB, dCall, dCons, dNil, dTup, dLst, dB, dNot, dTru, dAnd, dOr, dAndV, dOrV, dNotV, dIf, dChain, dNeg, startD, List.map, List.length, List.replicate, List.append, List.cons_append, List.nil_append, List.append_nil, List.getElem?_cons_zero, List.getElem?_cons_succ, List.set_cons_zero, List.set_cons_succ, List.set_nil, Nat.sub_self, Nat.add_one_sub_one, Nat.reduceAdd, Nat.reduceSub, List.replicate_zero, List.replicate_succ, ixD_tup0, ixD_tup1, ixD_enc0, ixD_enc1, two_le_size, true_and, subD, modD, divD, powD, ltD, leD, gtD, geD, dLc, dFor, dYes, dRaise, dMt, dMt0, dSl, dPart, dNoPart, dFmt, dJoined, dJs, dOrT, forD, diSeq, diRng1, diRng2, diEnum, diZip2, diZip3, dWhile, dLenSet, bindP, bindPs, wipeD, dListRng, gdStar, gdSub, List.map_cons, List.map_nil, eqD_ii, eqD_ss, eqD_bb, neD_ii, neD_ss, neD_bb, truD_bl, truD_int, truD_non, truD_str, truD_tup, truD_rol, isB_bl, walkD_tup, walkD_rol, walkD_str, lenD_str, lenD_tupE, lenD_rolE, rdI_ii, addD_ii, addD_ss, addD_tt, mulD_ii, absD_i, maxD_ii, minD_ii, divmodD_ii, strD_i, intD_s, isND_nn, zero_le_size, List.length_cons, List.length_nil, e1, tx_length]
          rw [lit_q, tx_length]
          refine ⟨by rw [sizeLine_eq]; decide, inD_strs hu5 ?_⟩
          simp only [dSeq, dNext, dRet, dRetN, dIfS, dDrop, dAsg, gdName, gdTup, gdNil, gdCons, dPar, dVar, dC, dOp, dCB, dCall, dCons, dNil, dTup, dLst, dB, dNot, dTru, dAnd, dOr, dAndV, dOrV, dNotV, dIf, dChain, dNeg, startD, List.map, List.length, List.replicate, List.append, List.cons_append, List.nil_append, List.append_nil, List.getElem?_cons_zero, List.getElem?_cons_succ, List.set_cons_zero, List.set_cons_succ, List.set_nil, Nat.sub_self, Nat.add_one_sub_one, Nat.reduceAdd, Nat.reduceSub, List.replicate_zero, List.replicate_succ, ixD_tup0, ixD_tup1, ixD_enc0, ixD_enc1, two_le_size, true_and, subD, modD, divD, powD, ltD, leD, gtD, geD, dLc, dFor, dYes, dRaise, dMt, dMt0, dSl, dPart, dNoPart, dFmt, dJoined, dJs, dOrT, forD, diSeq, diRng1, diRng2, diEnum, diZip2, diZip3, dWhile, dLenSet, bindP, bindPs, wipeD, dListRng, gdStar, gdSub, List.map_cons, List.map_nil, eqD_ii, eqD_ss, eqD_bb, neD_ii, neD_ss, neD_bb, truD_bl, truD_int, truD_non, truD_str, truD_tup, truD_rol, isB_bl, walkD_tup, walkD_rol, walkD_str, lenD_str, lenD_tupE, lenD_rolE, rdI_ii, addD_ii, addD_ss, addD_tt, mulD_ii, absD_i, maxD_ii, minD_ii, divmodD_ii, strD_i, intD_s, isND_nn, zero_le_size, List.length_cons, List.length_nil]
          by_cases h3 : [c, 113] ∈ us
          · simp [h3]; exact h2 _ (by simp [h3]) L5
          · simp [h3]; exact h1 _ _ (by simp [h3]) L5
        · have hl1z : G3 l1 = some (.lst (abc.filterMap fun c : Nat => if [c] ∈ us then none else some (D.str (tx [c])))) := L3.at
          have e5 : G5 l1 = some (.lst (abc.filterMap fun c : Nat => if [c] ∈ us then none else some (D.str (tx [c])))) := L5 _ _ (by rw [gupd_ne (ne_g hl1z hl2)]; exact hl1z)
          refine ⟨_, _, e5, L5.at, ?_, fun r hr => ?_⟩
          · have a1 := List.length_filterMap_le (fun c : Nat => if [c] ∈ us then none else some (D.str (tx [c]))) abc
            have a2 := List.length_filterMap_le (fun c : Nat => if [c, 113] ∈ us then none else some (D.str (tx [c, 113]))) abc
            rw [abc_length] at a1 a2
            rw [sizeLine_eq]
            show _ + (List.filterMap _ abc).length ≤ _
            omega
          · obtain ⟨c0, hc0, hu0⟩ := abc_free hl
            have hne : (abc.filterMap fun c : Nat => if [c] ∈ us then none else some (D.str (tx [c]))) ≠ [] := fun z => by
              have : D.str (tx [c0]) ∈ abc.filterMap fun c : Nat => if [c] ∈ us then none else some (D.str (tx [c])) := List.mem_filterMap.mpr ⟨c0, hc0, by simp [hu0]⟩
              rw [z] at this; cases this
            obtain ⟨x, xs, hx⟩ := List.exists_cons_of_ne_nil hne
            have hxm : x ∈ abc.filterMap fun c : Nat => if [c] ∈ us then none else some (D.str (tx [c])) := by rw [hx]; simp
            obtain ⟨c1, hc1, hc2⟩ := List.mem_filterMap.mp hxm
            have h7 : [c1] ∉ us ∧ x = D.str (tx [c1]) := by
              by_cases z : [c1] ∈ us
              · rw [if_pos z] at hc2; cases hc2
              · rw [if_neg z] at hc2; exact ⟨z, (Option.some.inj hc2).symm⟩
            rw [hx]
            refine ixD_ref (i := 0) gupd_same rfl ?_
            rw [h7.2]
            exact fo0 (hQ _ _ (nmOk_one hc1) h7.1 (((L.less L4).new hl2).less L5 |>.new hr))
    · simp [hin]
      exact fo0 (hQ _ _ hnm hin L)

def sp__law_names : DSp := sp2 fun a b G Q _ => ∃ (p : Addr) (n : Nat), a = .ref p ∧ b = .int n ∧ Pot G p ∧ n ≤ 20 ∧ ∀ l G2 q, l.length = n → (∀ x ∈ l, nmOk x) → l.Nodup → Pl p G G2 → G q = none → G2 q = some (.lst (txs l)) → Q (.ref q) G2
abbrev s__law_names : Stmt := topS 47
abbrev N__law_names : List Str := ["pot", "many", "found", "k"]
theorem sc__law_names : FnScope N__law_names ["pot", "many"] (defScope s__law_names) := ⟨rfl, rfl, rfl, by decide +kernel, rfl, by decide +kernel, by decide +kernel⟩
theorem ok__law_names (F : FunH K mg "_law_names" s__law_names) (T : Tx K mg) (h__law_name : Has P w K mg base 2 "_law_name" 2 [] sp__law_name) : Has P w K mg base 3 "_law_names" 2 [] sp__law_names := by
  refine Has.ofF F sc__law_names (fun _ _ _ _ _ _ us hl => match us, hl with | [_, _], _ => rfl) len2 fun f cdv A outer s H E ds G Q Ed B hp h => ⟨_, (s_cons (s_set 2 sc__law_names.nd (d_lst a_nil))
 (s_cons (s_for hp B.hc (i_rng1 T.b.range (a_cons (d_var 1) a_nil)) (g_name (i := 3) sc__law_names.nd) (s_one (s_expr (d_mt m_append PySem.F.plainAttrs_list PySem.F.slot_list_append PySem.F.type_list_append (d_var 2) (a_cons (d_call h__law_name B (a_cons (d_var 0) (a_cons (d_var 2) a_nil))) a_nil)))))
 (s_one (s_ret (d_var 2))))), ?_⟩

  obtain ⟨a, b, rfl, p, n, rfl, rfl, hp, hn, hQ⟩ := sp2_ex h
  simp only [dSeq, dNext, dRet, dRetN, dIfS, dDrop, dAsg, gdName, gdTup, gdNil, gdCons, dPar, dVar, dC, dOp, dCB, dCall, dCons, dNil, dTup, dLst, dB, dNot, dTru, dAnd, dOr, dAndV, dOrV, dNotV, dIf, dChain, dNeg, startD, List.map, List.length, List.replicate, List.append, List.cons_append, List.nil_append, List.append_nil, List.getElem?_cons_zero, List.getElem?_cons_succ, List.set_cons_zero, List.set_cons_succ, List.set_nil, Nat.sub_self, Nat.add_one_sub_one, Nat.reduceAdd, Nat.reduceSub, List.replicate_zero, List.replicate_succ, ixD_tup0, ixD_tup1, ixD_enc0, ixD_enc1, two_le_size, true_and, subD, modD, divD, powD, ltD, leD, gtD, geD, dLc, dFor, dYes, dRaise, dMt, dMt0, dSl, dPart, dNoPart, dFmt, dJoined, dJs, dOrT, forD, diSeq, diRng1, diRng2, diEnum, diZip2, diZip3, dWhile, dLenSet, bindP, bindPs, wipeD, dListRng, gdStar, gdSub, List.map_cons, List.map_nil, eqD_ii, eqD_ss, eqD_bb, neD_ii, neD_ss, neD_bb, truD_bl, truD_int, truD_non, truD_str, truD_tup, truD_rol, isB_bl, walkD_tup, walkD_rol, walkD_str, lenD_str, lenD_tupE, lenD_rolE, rdI_ii, addD_ii, addD_ss, addD_tt, mulD_ii, absD_i, maxD_ii, minD_ii, divmodD_ii, strD_i, intD_s, isND_nn, zero_le_size, List.length_cons, List.length_nil]
  intro q hq
  have hqp : q ≠ p := fun z => by subst z; obtain ⟨o, e⟩ := hp.some; rw [hq] at e; cases e
  refine ⟨⟨by omega, by omega⟩, forD_inv (fun i δ G' => Pl p G G' ∧ (∃ x3, δ = [some (.ref p), some (.int n), some (.ref q), x3]) ∧ ∃ l : List (List Nat), G' q = some (.lst (txs l)) ∧ l.length = i ∧ (∀ x ∈ l, nmOk x) ∧ l.Nodup) ⟨(Pl.refl hp).new hq, ⟨_, rfl⟩, [], gupd_same, rfl, by simp, by simp⟩ ?_ ?_⟩
  · rintro i d δ G' N hd ⟨L, ⟨x3, rfl⟩, l, hl, hli, hok, hnd⟩ hN
    obtain ⟨hi, rfl⟩ := rangeD_at hd
    refine ⟨trivial, ?_⟩
    simp only [dSeq, dNext, dRet, dRetN, dIfS, dDrop, dAsg, gdName, gdTup, gdNil, gdCons, dPar, dVar, dC, dOp, dCB, dCall, dCons, dNil, dTup, dLst, dB, dNot, dTru, dAnd, dOr, dAndV, dOrV, dNotV, dIf, dChain, dNeg, startD, List.map, List.length, List.replicate, List.append, List.cons_append, List.nil_append, List.append_nil, List.getElem?_cons_zero, List.getElem?_cons_succ, List.set_cons_zero, List.set_cons_succ, List.set_nil, Nat.sub_self, Nat.add_one_sub_one, Nat.reduceAdd, Nat.reduceSub, List.replicate_zero, List.replicate_succ, ixD_tup0, ixD_tup1, ixD_enc0, ixD_enc1, two_le_size, true_and, subD, modD, divD, powD, ltD, leD, gtD, geD, dLc, dFor, dYes, dRaise, dMt, dMt0, dSl, dPart, dNoPart, dFmt, dJoined, dJs, dOrT, forD, diSeq, diRng1, diRng2, diEnum, diZip2, diZip3, dWhile, dLenSet, bindP, bindPs, wipeD, dListRng, gdStar, gdSub, List.map_cons, List.map_nil, eqD_ii, eqD_ss, eqD_bb, neD_ii, neD_ss, neD_bb, truD_bl, truD_int, truD_non, truD_str, truD_tup, truD_rol, isB_bl, walkD_tup, walkD_rol, walkD_str, lenD_str, lenD_tupE, lenD_rolE, rdI_ii, addD_ii, addD_ss, addD_tt, mulD_ii, absD_i, maxD_ii, minD_ii, divmodD_ii, strD_i, intD_s, isND_nn, zero_le_size, List.length_cons, List.length_nil, sp__law_name, sp2, appendD]
    refine ⟨tyD_lst hl, p, q, l, rfl, rfl, L.pot, hl, by omega, fun x G2 hx hxl L2 => ?_⟩
    have hq2 := L2.old q _ hqp hl
    refine ⟨_, hq2, by simp [txs, sizeLine_eq]; omega, hN _ _ ⟨?_, ⟨_, rfl⟩, l ++ [x], by simp [txs], by simp [hli], ?_, ?_⟩⟩
    · exact (L.trans L2).put hq hqp
    · intro y hy
      rcases List.mem_append.mp hy with hy | hy
      · exact hok y hy
      · rw [List.mem_singleton.mp hy]; exact hx
    · rw [List.nodup_append]
      refine ⟨hnd, by simp, fun y hy z hz => ?_⟩
      rw [List.mem_singleton.mp hz]
      rintro rfl
      exact hxl hy
  · rintro δ G' ⟨L, ⟨x3, rfl⟩, l, hl, hli, hok, hnd⟩
    refine ⟨trivial, ?_⟩
    simp only [dSeq, dNext, dRet, dRetN, dIfS, dDrop, dAsg, gdName, gdTup, gdNil, gdCons, dPar, dVar, dC, dOp, dCB, dCall, dCons, dNil, dTup, dLst, dB, dNot, dTru, dAnd, dOr, dAndV, dOrV, dNotV, dIf, dChain, dNeg, startD, List.map, List.length, List.replicate, List.append, List.cons_append, List.nil_append, List.append_nil, List.getElem?_cons_zero, List.getElem?_cons_succ, List.set_cons_zero, List.set_cons_succ, List.set_nil, Nat.sub_self, Nat.add_one_sub_one, Nat.reduceAdd, Nat.reduceSub, List.replicate_zero, List.replicate_succ, ixD_tup0, ixD_tup1, ixD_enc0, ixD_enc1, two_le_size, true_and, subD, modD, divD, powD, ltD, leD, gtD, geD, dLc, dFor, dYes, dRaise, dMt, dMt0, dSl, dPart, dNoPart, dFmt, dJoined, dJs, dOrT, forD, diSeq, diRng1, diRng2, diEnum, diZip2, diZip3, dWhile, dLenSet, bindP, bindPs, wipeD, dListRng, gdStar, gdSub, List.map_cons, List.map_nil, eqD_ii, eqD_ss, eqD_bb, neD_ii, neD_ss, neD_bb, truD_bl, truD_int, truD_non, truD_str, truD_tup, truD_rol, isB_bl, walkD_tup, walkD_rol, walkD_str, lenD_str, lenD_tupE, lenD_rolE, rdI_ii, addD_ii, addD_ss, addD_tt, mulD_ii, absD_i, maxD_ii, minD_ii, divmodD_ii, strD_i, intD_s, isND_nn, zero_le_size, List.length_cons, List.length_nil]
    exact fo0 (hQ l _ q (by rw [hli, rangeD_length]; omega) hok hnd L hq hl)

def sp__law_low : DSp := sp2 fun a b G Q _ => ∃ i j : Int, a = .int i ∧ b = .int j ∧ 0 < j ∧ j.natAbs < 2 ^ 8900 ∧ Q (encQ (Rat.divInt i j)) G
abbrev s__law_low : Stmt := topS 48
abbrev N__law_low : List Str := ["above", "below", "one", "other"]
theorem sc__law_low : FnScope N__law_low ["above", "below"] (defScope s__law_low) := ⟨rfl, rfl, rfl, by decide +kernel, rfl, by decide +kernel, by decide +kernel⟩
theorem ok__law_low (F : FunH K mg "_law_low" s__law_low) (T : Tx K mg)  : Has P w K mg base 1 "_law_low" 2 [] sp__law_low := by
  refine Has.ofF F sc__law_low (fun _ _ _ _ _ _ us hl => match us, hl with | [_, _], _ => rfl) len2 fun f cdv A outer s H E ds G Q Ed B hp h => ⟨_, (s_cons (s_par (i := 2) (j := 3) B.hc sc__law_low.nd (a_cons (d_callB c_abs T.b.abs boot_abs (a_cons (d_var 0) a_nil)) (a_cons (d_var 1) a_nil)))
 (s_cons (s_while hp (d_tcmp o_gt (d_var 3) d_int) (s_one (s_par (i := 2) (j := 3) B.hc sc__law_low.nd (a_cons (d_var 3) (a_cons (d_op o_mod (d_var 2) (d_var 3)) a_nil)))))
 (s_one (s_ret (d_tup (a_cons (d_op o_div (d_var 0) (d_var 2)) (a_cons (d_op o_div (d_var 1) (d_var 2)) a_nil))))))), ?_⟩

  obtain ⟨a, b, rfl, i, j, rfl, rfl, hj, hz, hQ⟩ := sp2_ex h
  simp only [dSeq, dNext, dRet, dRetN, dIfS, dDrop, dAsg, gdName, gdTup, gdNil, gdCons, dPar, dVar, dC, dOp, dCB, dCall, dCons, dNil, dTup, dLst, dB, dNot, dTru, dAnd, dOr, dAndV, dOrV, dNotV, dIf, dChain, dNeg, startD, List.map, List.length, List.replicate, List.append, List.cons_append, List.nil_append, List.append_nil, List.getElem?_cons_zero, List.getElem?_cons_succ, List.set_cons_zero, List.set_cons_succ, List.set_nil, Nat.sub_self, Nat.add_one_sub_one, Nat.reduceAdd, Nat.reduceSub, List.replicate_zero, List.replicate_succ, ixD_tup0, ixD_tup1, ixD_enc0, ixD_enc1, two_le_size, true_and, subD, modD, divD, powD, ltD, leD, gtD, geD, dLc, dFor, dYes, dRaise, dMt, dMt0, dSl, dPart, dNoPart, dFmt, dJoined, dJs, dOrT, forD, diSeq, diRng1, diRng2, diEnum, diZip2, diZip3, dWhile, dLenSet, bindP, bindPs, wipeD, dListRng, gdStar, gdSub, List.map_cons, List.map_nil, eqD_ii, eqD_ss, eqD_bb, neD_ii, neD_ss, neD_bb, truD_bl, truD_int, truD_non, truD_str, truD_tup, truD_rol, isB_bl, walkD_tup, walkD_rol, walkD_str, lenD_str, lenD_tupE, lenD_rolE, rdI_ii, addD_ii, addD_ss, addD_tt, mulD_ii, absD_i, maxD_ii, minD_ii, divmodD_ii, strD_i, intD_s, isND_nn, zero_le_size, List.length_cons, List.length_nil]
  have hg : (0 : Int) < Int.gcd i j := by
    have : 0 < Int.gcd i j := Int.gcd_pos_of_ne_zero_right _ (by omega)
    omega
  have hgz : (Int.gcd i j : Int).natAbs < 2 ^ 8900 := by
    have : Int.gcd i j ≤ j.natAbs := Nat.le_of_dvd (by omega) (Nat.gcd_dvd_right ..)
    simp
    omega
  refine ⟨fun m δ G' => ∃ x y : Nat, δ = [some (.int i), some (.int j), some (.int x), some (.int y)] ∧ G' = G ∧ m = y ∧ Nat.gcd x y = Int.gcd i j, ⟨j.natAbs, i.natAbs, j.natAbs, ?_, rfl, rfl, rfl⟩, ?_⟩
  · have e1 : (if i < 0 then -i else i) = (i.natAbs : Int) := by clear hz hgz; split <;> omega
    have e2 : ((j.natAbs : Nat) : Int) = j := by clear hz hgz; omega
    rw [e1, e2]
  rintro y δ G' ⟨x, _, rfl, rfl, rfl, hxy⟩
  simp only [dSeq, dNext, dRet, dRetN, dIfS, dDrop, dAsg, gdName, gdTup, gdNil, gdCons, dPar, dVar, dC, dOp, dCB, dCall, dCons, dNil, dTup, dLst, dB, dNot, dTru, dAnd, dOr, dAndV, dOrV, dNotV, dIf, dChain, dNeg, startD, List.map, List.length, List.replicate, List.append, List.cons_append, List.nil_append, List.append_nil, List.getElem?_cons_zero, List.getElem?_cons_succ, List.set_cons_zero, List.set_cons_succ, List.set_nil, Nat.sub_self, Nat.add_one_sub_one, Nat.reduceAdd, Nat.reduceSub, List.replicate_zero, List.replicate_succ, ixD_tup0, ixD_tup1, ixD_enc0, ixD_enc1, two_le_size, true_and, subD, modD, divD, powD, ltD, leD, gtD, geD, dLc, dFor, dYes, dRaise, dMt, dMt0, dSl, dPart, dNoPart, dFmt, dJoined, dJs, dOrT, forD, diSeq, diRng1, diRng2, diEnum, diZip2, diZip3, dWhile, dLenSet, bindP, bindPs, wipeD, dListRng, gdStar, gdSub, List.map_cons, List.map_nil, eqD_ii, eqD_ss, eqD_bb, neD_ii, neD_ss, neD_bb, truD_bl, truD_int, truD_non, truD_str, truD_tup, truD_rol, isB_bl, walkD_tup, walkD_rol, walkD_str, lenD_str, lenD_tupE, lenD_rolE, rdI_ii, addD_ii, addD_ss, addD_tt, mulD_ii, absD_i, maxD_ii, minD_ii, divmodD_ii, strD_i, intD_s, isND_nn, zero_le_size, List.length_cons, List.length_nil]
  by_cases hy : (0 : Int) < y
  · simp only [hy, decide_true, if_true, true_and]
    exact ⟨x % y, Nat.mod_lt _ (by omega), y, x % y, by simp, rfl, by rw [Nat.gcd_comm y, ← Nat.gcd_rec, Nat.gcd_comm]; exact hxy⟩
  · have e : y = 0 := by omega
    subst e
    simp at hxy
    rw [hxy]
    simp
    refine ⟨divOk_of hg hgz, divOk_of hg hgz, ?_⟩
    rw [lowest_num hj, lowest_den hj]
    exact fo0 hQ

def sp__law_plus : DSp := sp2 fun a b G Q _ => ∃ p q : Rat, a = encQ p ∧ b = encQ q ∧ Sm p ∧ Sm q ∧ Q (encQ (p + q)) G
abbrev s__law_plus : Stmt := topS 49
abbrev N__law_plus : List Str := ["one", "other"]
theorem sc__law_plus : FnScope N__law_plus ["one", "other"] (defScope s__law_plus) := ⟨rfl, rfl, rfl, by decide +kernel, rfl, by decide +kernel, by decide +kernel⟩
theorem ok__law_plus (F : FunH K mg "_law_plus" s__law_plus) (T : Tx K mg) (h__law_low : Has P w K mg base 1 "_law_low" 2 [] sp__law_low) : Has P w K mg base 2 "_law_plus" 2 [] sp__law_plus := by
  refine Has.ofF F sc__law_plus (fun _ _ _ _ _ _ us hl => match us, hl with | [_, _], _ => rfl) len2 fun f cdv A outer s H E ds G Q Ed B hp h => ⟨_, (s_one (s_ret (d_call h__law_low B (a_cons (d_op o_add (d_op o_mul (d_ix (d_var 0) d_int) (d_ix (d_var 1) d_int)) (d_op o_mul (d_ix (d_var 1) d_int) (d_ix (d_var 0) d_int))) (a_cons (d_op o_mul (d_ix (d_var 0) d_int) (d_ix (d_var 1) d_int)) a_nil))))), ?_⟩

  obtain ⟨a, b, rfl, p, q, rfl, rfl, hp, hq, hQ⟩ := sp2_ex h
  simp only [dSeq, dNext, dRet, dRetN, dIfS, dDrop, dAsg, gdName, gdTup, gdNil, gdCons, dPar, dVar, dC, dOp, dCB, dCall, dCons, dNil, dTup, dLst, dB, dNot, dTru, dAnd, dOr, dAndV, dOrV, dNotV, dIf, dChain, dNeg, startD, List.map, List.length, List.replicate, List.append, List.cons_append, List.nil_append, List.append_nil, List.getElem?_cons_zero, List.getElem?_cons_succ, List.set_cons_zero, List.set_cons_succ, List.set_nil, Nat.sub_self, Nat.add_one_sub_one, Nat.reduceAdd, Nat.reduceSub, List.replicate_zero, List.replicate_succ, ixD_tup0, ixD_tup1, ixD_enc0, ixD_enc1, two_le_size, true_and, subD, modD, divD, powD, ltD, leD, gtD, geD, dLc, dFor, dYes, dRaise, dMt, dMt0, dSl, dPart, dNoPart, dFmt, dJoined, dJs, dOrT, forD, diSeq, diRng1, diRng2, diEnum, diZip2, diZip3, dWhile, dLenSet, bindP, bindPs, wipeD, dListRng, gdStar, gdSub, List.map_cons, List.map_nil, eqD_ii, eqD_ss, eqD_bb, neD_ii, neD_ss, neD_bb, truD_bl, truD_int, truD_non, truD_str, truD_tup, truD_rol, isB_bl, walkD_tup, walkD_rol, walkD_str, lenD_str, lenD_tupE, lenD_rolE, rdI_ii, addD_ii, addD_ss, addD_tt, mulD_ii, absD_i, maxD_ii, minD_ii, divmodD_ii, strD_i, intD_s, isND_nn, zero_le_size, List.length_cons, List.length_nil, sp__law_low, sp2, encQ]
  refine ⟨mulOk_of hp.1 (b := 4000) (by simpa using hq.2), mulOk_of hq.1 (b := 4000) (by simpa using hp.2), mulOk_of (a := 4000) (b := 4000) (by simpa using hp.2) (by simpa using hq.2), _, _, rfl, rfl, Int.mul_pos hp.den_pos hq.den_pos, ?_, ?_⟩
  · exact Nat.lt_of_lt_of_le (natAbs_mul_lt (a := 4000) (b := 4000) (by simpa using hp.2) (by simpa using hq.2)) (Nat.pow_le_pow_right (by decide) (by decide))
  · rw [plus_eq]; exact fo0 hQ

def sp__law_less : DSp := sp2 fun a b G Q _ => ∃ p q : Rat, a = encQ p ∧ b = encQ q ∧ Sm p ∧ Sm q ∧ Q (.bl (decide (p < q))) G
abbrev s__law_less : Stmt := topS 50
abbrev N__law_less : List Str := ["one", "other"]
theorem sc__law_less : FnScope N__law_less ["one", "other"] (defScope s__law_less) := ⟨rfl, rfl, rfl, by decide +kernel, rfl, by decide +kernel, by decide +kernel⟩
theorem ok__law_less (F : FunH K mg "_law_less" s__law_less) (T : Tx K mg)  : Has P w K mg base 1 "_law_less" 2 [] sp__law_less := by
  refine Has.ofF F sc__law_less (fun _ _ _ _ _ _ us hl => match us, hl with | [_, _], _ => rfl) len2 fun f cdv A outer s H E ds G Q Ed B hp h => ⟨_, (s_one (s_ret (d_cmp o_lt (d_op o_mul (d_ix (d_var 0) d_int) (d_ix (d_var 1) d_int)) (d_op o_mul (d_ix (d_var 1) d_int) (d_ix (d_var 0) d_int))))), ?_⟩

  obtain ⟨a, b, rfl, p, q, rfl, rfl, hp, hq, hQ⟩ := sp2_ex h
  simp only [dSeq, dNext, dRet, dRetN, dIfS, dDrop, dAsg, gdName, gdTup, gdNil, gdCons, dPar, dVar, dC, dOp, dCB, dCall, dCons, dNil, dTup, dLst, dB, dNot, dTru, dAnd, dOr, dAndV, dOrV, dNotV, dIf, dChain, dNeg, startD, List.map, List.length, List.replicate, List.append, List.cons_append, List.nil_append, List.append_nil, List.getElem?_cons_zero, List.getElem?_cons_succ, List.set_cons_zero, List.set_cons_succ, List.set_nil, Nat.sub_self, Nat.add_one_sub_one, Nat.reduceAdd, Nat.reduceSub, List.replicate_zero, List.replicate_succ, ixD_tup0, ixD_tup1, ixD_enc0, ixD_enc1, two_le_size, true_and, subD, modD, divD, powD, ltD, leD, gtD, geD, dLc, dFor, dYes, dRaise, dMt, dMt0, dSl, dPart, dNoPart, dFmt, dJoined, dJs, dOrT, forD, diSeq, diRng1, diRng2, diEnum, diZip2, diZip3, dWhile, dLenSet, bindP, bindPs, wipeD, dListRng, gdStar, gdSub, List.map_cons, List.map_nil, eqD_ii, eqD_ss, eqD_bb, neD_ii, neD_ss, neD_bb, truD_bl, truD_int, truD_non, truD_str, truD_tup, truD_rol, isB_bl, walkD_tup, walkD_rol, walkD_str, lenD_str, lenD_tupE, lenD_rolE, rdI_ii, addD_ii, addD_ss, addD_tt, mulD_ii, absD_i, maxD_ii, minD_ii, divmodD_ii, strD_i, intD_s, isND_nn, zero_le_size, List.length_cons, List.length_nil, encQ]
  refine ⟨mulOk_of hp.1 (b := 4000) (by simpa using hq.2), mulOk_of hq.1 (b := 4000) (by simpa using hp.2), ?_⟩
  rw [less_eq]; exact fo0 hQ

def sp__law_sum : DSp := sp1 fun a G Q _ => ∃ row : List Rat, SeqG G a (row.map encQ) ∧ Rok row ∧ Q (encQ row.sum) G
abbrev s__law_sum : Stmt := topS 51
abbrev N__law_sum : List Str := ["parts", "found", "one"]
theorem sc__law_sum : FnScope N__law_sum ["parts"] (defScope s__law_sum) := ⟨rfl, rfl, rfl, by decide +kernel, rfl, by decide +kernel, by decide +kernel⟩
theorem ok__law_sum (F : FunH K mg "_law_sum" s__law_sum) (T : Tx K mg) (h__law_plus : Has P w K mg base 2 "_law_plus" 2 [] sp__law_plus) : Has P w K mg base 3 "_law_sum" 1 [] sp__law_sum := by
  refine Has.ofF F sc__law_sum (fun _ _ _ _ _ _ us hl => match us, hl with | [_], _ => rfl) len1 fun f cdv A outer s H E ds G Q Ed B hp h => ⟨_, (s_cons (s_set 1 sc__law_sum.nd (d_tup (a_cons d_int (a_cons d_int a_nil))))
 (s_cons (s_for hp B.hc (i_seq (d_var 0)) (g_name (i := 2) sc__law_sum.nd) (s_one (s_set 1 sc__law_sum.nd (d_call h__law_plus B (a_cons (d_var 1) (a_cons (d_var 2) a_nil))))))
 (s_one (s_ret (d_var 1))))), ?_⟩

  obtain ⟨a, rfl, row, ha, hr, hQ⟩ := sp1_ex h
  simp only [dSeq, dNext, dRet, dRetN, dIfS, dDrop, dAsg, gdName, gdTup, gdNil, gdCons, dPar, dVar, dC, dOp, dCB, dCall, dCons, dNil, dTup, dLst, dB, dNot, dTru, dAnd, dOr, dAndV, dOrV, dNotV, dIf, dChain, dNeg, startD, List.map, List.length, List.replicate, List.append, List.cons_append, List.nil_append, List.append_nil, List.getElem?_cons_zero, List.getElem?_cons_succ, List.set_cons_zero, List.set_cons_succ, List.set_nil, Nat.sub_self, Nat.add_one_sub_one, Nat.reduceAdd, Nat.reduceSub, List.replicate_zero, List.replicate_succ, ixD_tup0, ixD_tup1, ixD_enc0, ixD_enc1, two_le_size, true_and, subD, modD, divD, powD, ltD, leD, gtD, geD, dLc, dFor, dYes, dRaise, dMt, dMt0, dSl, dPart, dNoPart, dFmt, dJoined, dJs, dOrT, forD, diSeq, diRng1, diRng2, diEnum, diZip2, diZip3, dWhile, dLenSet, bindP, bindPs, wipeD, dListRng, gdStar, gdSub, List.map_cons, List.map_nil, eqD_ii, eqD_ss, eqD_bb, neD_ii, neD_ss, neD_bb, truD_bl, truD_int, truD_non, truD_str, truD_tup, truD_rol, isB_bl, walkD_tup, walkD_rol, walkD_str, lenD_str, lenD_tupE, lenD_rolE, rdI_ii, addD_ii, addD_ss, addD_tt, mulD_ii, absD_i, maxD_ii, minD_ii, divmodD_ii, strD_i, intD_s, isND_nn, zero_le_size, List.length_cons, List.length_nil]
  have key : ∀ chk : GH → Prop, chk G → forD chk (gdName 2) (dAsg (dCall sp__law_plus (fun c fs x G' => FoX Ed c fs G') [] (dCons (dVar 1) (dCons (dVar 2) dNil))) (gdName 1)) { nx := dRet (dVar 1) { nx := fun x G' => Fo Q D.non G', rt := Fo Q }, rt := Fo Q } (row.map encQ) [some a, some (encQ 0), none] G := by
    intro chk hc
    refine forD_inv (fun i δ G' => G' = G ∧ ∃ x2, δ = [some a, some (encQ (row.take i).sum), x2]) ⟨rfl, none, by simp⟩ ?_ ?_
    · rintro i d δ G' N hd ⟨rfl, x2, rfl⟩ hN
      obtain ⟨x, hx, rfl⟩ := map_at hd
      refine ⟨hc, ?_⟩
      simp only [dSeq, dNext, dRet, dRetN, dIfS, dDrop, dAsg, gdName, gdTup, gdNil, gdCons, dPar, dVar, dC, dOp, dCB, dCall, dCons, dNil, dTup, dLst, dB, dNot, dTru, dAnd, dOr, dAndV, dOrV, dNotV, dIf, dChain, dNeg, startD, List.map, List.length, List.replicate, List.append, List.cons_append, List.nil_append, List.append_nil, List.getElem?_cons_zero, List.getElem?_cons_succ, List.set_cons_zero, List.set_cons_succ, List.set_nil, Nat.sub_self, Nat.add_one_sub_one, Nat.reduceAdd, Nat.reduceSub, List.replicate_zero, List.replicate_succ, ixD_tup0, ixD_tup1, ixD_enc0, ixD_enc1, two_le_size, true_and, subD, modD, divD, powD, ltD, leD, gtD, geD, dLc, dFor, dYes, dRaise, dMt, dMt0, dSl, dPart, dNoPart, dFmt, dJoined, dJs, dOrT, forD, diSeq, diRng1, diRng2, diEnum, diZip2, diZip3, dWhile, dLenSet, bindP, bindPs, wipeD, dListRng, gdStar, gdSub, List.map_cons, List.map_nil, eqD_ii, eqD_ss, eqD_bb, neD_ii, neD_ss, neD_bb, truD_bl, truD_int, truD_non, truD_str, truD_tup, truD_rol, isB_bl, walkD_tup, walkD_rol, walkD_str, lenD_str, lenD_tupE, lenD_rolE, rdI_ii, addD_ii, addD_ss, addD_tt, mulD_ii, absD_i, maxD_ii, minD_ii, divmodD_ii, strD_i, intD_s, isND_nn, zero_le_size, List.length_cons, List.length_nil, sp__law_plus, sp2]
      refine ⟨_, _, rfl, rfl, (hr.take i).sum.mono (by decide), (hr.one (List.mem_of_getElem? hx)).mono (by decide), hN _ _ ⟨rfl, some (encQ x), ?_⟩⟩
      rw [List.take_add_one, hx, sum_append]
      simp [Rat.add_zero]
    · rintro δ G' ⟨rfl, x2, rfl⟩
      refine ⟨hc, ?_⟩
      simp only [dSeq, dNext, dRet, dRetN, dIfS, dDrop, dAsg, gdName, gdTup, gdNil, gdCons, dPar, dVar, dC, dOp, dCB, dCall, dCons, dNil, dTup, dLst, dB, dNot, dTru, dAnd, dOr, dAndV, dOrV, dNotV, dIf, dChain, dNeg, startD, List.map, List.length, List.replicate, List.append, List.cons_append, List.nil_append, List.append_nil, List.getElem?_cons_zero, List.getElem?_cons_succ, List.set_cons_zero, List.set_cons_succ, List.set_nil, Nat.sub_self, Nat.add_one_sub_one, Nat.reduceAdd, Nat.reduceSub, List.replicate_zero, List.replicate_succ, ixD_tup0, ixD_tup1, ixD_enc0, ixD_enc1, two_le_size, true_and, subD, modD, divD, powD, ltD, leD, gtD, geD, dLc, dFor, dYes, dRaise, dMt, dMt0, dSl, dPart, dNoPart, dFmt, dJoined, dJs, dOrT, forD, diSeq, diRng1, diRng2, diEnum, diZip2, diZip3, dWhile, dLenSet, bindP, bindPs, wipeD, dListRng, gdStar, gdSub, List.map_cons, List.map_nil, eqD_ii, eqD_ss, eqD_bb, neD_ii, neD_ss, neD_bb, truD_bl, truD_int, truD_non, truD_str, truD_tup, truD_rol, isB_bl, walkD_tup, walkD_rol, walkD_str, lenD_str, lenD_tupE, lenD_rolE, rdI_ii, addD_ii, addD_ss, addD_tt, mulD_ii, absD_i, maxD_ii, minD_ii, divmodD_ii, strD_i, intD_s, isND_nn, zero_le_size, List.length_cons, List.length_nil]
      rw [List.length_map, List.take_of_length_le (Nat.le_refl _)]
      exact fo0 hQ
  cases a with
  | tup ds => cases (show ds = _ from ha); exact key _ trivial
  | rol ds => cases (show ds = _ from ha); exact key _ trivial
  | ref x => exact ⟨_, ha, key _ ha⟩
  | _ => exact ha.elim

end
end Q
set_option maxHeartbeats 4000000
namespace Q
open PySem PySem.Spec PyProof.Rows L2

section
variable {P : Program} {w : World} {K : PySem.W.Frag} {mg : Str → Option Value} {base : Heap}
def sp__law_first : DSp := sp1 fun a G Q _ => ∃ row : List Rat, SeqG G a (row.map encQ) ∧ Rok row ∧ row.length < 2 ^ 20 ∧ ∀ ord q G2, ord.Perm (List.range row.length) → Falls row ord → Less G G2 → G q = none → G2 q = some (.lst (nls ord)) → Q (.ref q) G2
abbrev s__law_first : Stmt := topS 52
abbrev N__law_first : List Str := ["row", "left", "found", "at", "k"]
theorem sc__law_first : FnScope N__law_first ["row"] (defScope s__law_first) := ⟨rfl, rfl, rfl, by decide +kernel, rfl, by decide +kernel, by decide +kernel⟩
theorem ok__law_first (F : FunH K mg "_law_first" s__law_first) (T : Tx K mg) (h__law_less : Has P w K mg base 1 "_law_less" 2 [] sp__law_less) : Has P w K mg base 2 "_law_first" 1 [] sp__law_first := by
  refine Has.ofF F sc__law_first (fun _ _ _ _ _ _ us hl => match us, hl with | [_], _ => rfl) len1 fun f cdv A outer s H E ds G Q Ed B hp h => ⟨_, (s_cons (s_set 1 sc__law_first.nd (d_listRng B.hc T.b.list T.b.range (a_cons (d_callB c_len T.b.len boot_len (a_cons (d_var 0) a_nil)) a_nil)))
 (s_cons (s_set 2 sc__law_first.nd (d_lst a_nil))
 (s_cons (s_while hp (d_tcmp (o_ne B.hu) (d_var 1) (d_lst a_nil)) (s_cons (s_set 3 sc__law_first.nd (d_ix (d_var 1) d_int))
 (s_cons (s_for hp B.hc (i_seq (d_var 1)) (g_name (i := 4) sc__law_first.nd) (s_one (s_if (d_ttru (d_call h__law_less B (a_cons (d_ix (d_var 0) (d_var 3)) (a_cons (d_ix (d_var 0) (d_var 4)) a_nil)))) (s_one (s_set 3 sc__law_first.nd (d_var 4))) s_nil)))
 (s_cons (s_expr (d_mt m_append PySem.F.plainAttrs_list PySem.F.slot_list_append PySem.F.type_list_append (d_var 2) (a_cons (d_var 3) a_nil)))
 (s_one (s_setLc 1 (own := [("k", 4)]) (p := .nm 4) B.hc sc__law_first.nd (blkOk_by (own := [("k", 4)]) (N := N__law_first) (by kernel_rfl)) (by decide) (sw_true rfl rfl rfl (by decide +kernel)) (i_seq (d_var 1)) (fun s1 H1 C1 cl1 fp1 => (p_name (i := 4) sc__law_first.nd)) (fun s1 H1 C1 cl1 fp1 => (ts_one (d_tcmp (o_ne (B.blk s1 H1 _ _ fp1).hu) (d_var 4) (d_var 3)))) (fun s1 H1 C1 cl1 fp1 => (d_var 4))))))))
 (s_one (s_ret (d_var 2)))))), ?_⟩

  obtain ⟨a, rfl, row, ha, hr, hz, hQ⟩ := sp1_ex h
  simp only [dSeq, dNext, dRet, dRetN, dIfS, dDrop, dAsg, gdName, gdTup, gdNil, gdCons, dPar, dVar, dC, dOp, dCB, dCall, dCons, dNil, dTup, dLst, dB, dNot, dTru, dAnd, dOr, dAndV, dOrV, dNotV, dIf, dChain, dNeg, startD, List.map, List.length, List.replicate, List.append, List.cons_append, List.nil_append, List.append_nil, List.getElem?_cons_zero, List.getElem?_cons_succ, List.set_cons_zero, List.set_cons_succ, List.set_nil, Nat.sub_self, Nat.add_one_sub_one, Nat.reduceAdd, Nat.reduceSub, List.replicate_zero, List.replicate_succ, ixD_tup0, ixD_tup1, ixD_enc0, ixD_enc1, two_le_size, true_and, subD, modD, divD, powD, ltD, leD, gtD, geD, dLc, dFor, dYes, dRaise, dMt, dMt0, dSl, dPart, dNoPart, dFmt, dJoined, dJs, dOrT, forD, diSeq, diRng1, diRng2, diEnum, diZip2, diZip3, dWhile, dLenSet, bindP, bindPs, wipeD, dListRng, gdStar, gdSub, List.map_cons, List.map_nil, eqD_ii, eqD_ss, eqD_bb, neD_ii, neD_ss, neD_bb, truD_bl, truD_int, truD_non, truD_str, truD_tup, truD_rol, isB_bl, walkD_tup, walkD_rol, walkD_str, lenD_str, lenD_tupE, lenD_rolE, rdI_ii, addD_ii, addD_ss, addD_tt, mulD_ii, absD_i, maxD_ii, minD_ii, divmodD_ii, strD_i, intD_s, isND_nn, zero_le_size, List.length_cons, List.length_nil]
  refine lenD_seq ha ?_
  rw [List.length_map]
  refine ⟨⟨by omega, by omega⟩, fun a0 ha0 f hf => ?_⟩
  obtain ⟨hfa, hf0⟩ := gupd_none hf
  have hlt : ∀ ord : List Nat, ord.Perm (List.range row.length) → ∀ k ∈ ord, k < row.length := fun ord hp k hk => by simpa using hp.mem_iff.mp hk
  have rvm : ∀ k, k < row.length → (row.map encQ)[k]? = some (encQ (rv row k)) := fun k hk => by simp [rv, hk]
  refine ⟨fun m δ G' => ∃ (a1 : Addr) (L F : List Nat) (x3 x4 : Option D), δ = [some a, some (.ref a1), some (.ref f), x3, x4] ∧ m = L.length ∧ G' a1 = some (.lst (nls L)) ∧ G' f = some (.lst (nls F)) ∧ a1 ≠ f ∧ (F ++ L).Perm (List.range row.length) ∧ Falls row F ∧ (∀ x ∈ F, ∀ y ∈ L, rv row y ≤ rv row x) ∧ Less G G', ?_, ?_⟩
  · refine ⟨_, a0, List.range row.length, [], none, none, rfl, rfl, ?_, gupd_same, hfa.symm, by simp, .nil, by simp, (Less.new (.refl G) ha0).new hf⟩
    rw [gupd_ne hfa.symm, gupd_same, ← range_nls]; simp
  · rintro m δ G' ⟨a1, L, F, x3, x4, rfl, rfl, h1, h2, hne, hP, hF, hFL, hLess⟩
    simp only [dSeq, dNext, dRet, dRetN, dIfS, dDrop, dAsg, gdName, gdTup, gdNil, gdCons, dPar, dVar, dC, dOp, dCB, dCall, dCons, dNil, dTup, dLst, dB, dNot, dTru, dAnd, dOr, dAndV, dOrV, dNotV, dIf, dChain, dNeg, startD, List.map, List.length, List.replicate, List.append, List.cons_append, List.nil_append, List.append_nil, List.getElem?_cons_zero, List.getElem?_cons_succ, List.set_cons_zero, List.set_cons_succ, List.set_nil, Nat.sub_self, Nat.add_one_sub_one, Nat.reduceAdd, Nat.reduceSub, List.replicate_zero, List.replicate_succ, ixD_tup0, ixD_tup1, ixD_enc0, ixD_enc1, two_le_size, true_and, subD, modD, divD, powD, ltD, leD, gtD, geD, dLc, dFor, dYes, dRaise, dMt, dMt0, dSl, dPart, dNoPart, dFmt, dJoined, dJs, dOrT, forD, diSeq, diRng1, diRng2, diEnum, diZip2, diZip3, dWhile, dLenSet, bindP, bindPs, wipeD, dListRng, gdStar, gdSub, List.map_cons, List.map_nil, eqD_ii, eqD_ss, eqD_bb, neD_ii, neD_ss, neD_bb, truD_bl, truD_int, truD_non, truD_str, truD_tup, truD_rol, isB_bl, walkD_tup, walkD_rol, walkD_str, lenD_str, lenD_tupE, lenD_rolE, rdI_ii, addD_ii, addD_ss, addD_tt, mulD_ii, absD_i, maxD_ii, minD_ii, divmodD_ii, strD_i, intD_s, isND_nn, zero_le_size, List.length_cons, List.length_nil]
    intro e1 he1
    have h1e : a1 ≠ e1 := ne_g h1 he1
    have h2e : f ≠ e1 := ne_g h2 he1
    refine neD_nil (by rw [gupd_ne h1e]; exact h1) gupd_same ?_
    simp only [dSeq, dNext, dRet, dRetN, dIfS, dDrop, dAsg, gdName, gdTup, gdNil, gdCons, dPar, dVar, dC, dOp, dCB, dCall, dCons, dNil, dTup, dLst, dB, dNot, dTru, dAnd, dOr, dAndV, dOrV, dNotV, dIf, dChain, dNeg, startD, List.map, List.length, List.replicate, List.append, List.cons_append, List.nil_append, List.append_nil, List.getElem?_cons_zero, List.getElem?_cons_succ, List.set_cons_zero, List.set_cons_succ, List.set_nil, Nat.sub_self, Nat.add_one_sub_one, Nat.reduceAdd, Nat.reduceSub, List.replicate_zero, List.replicate_succ, ixD_tup0, ixD_tup1, ixD_enc0, ixD_enc1, two_le_size, true_and, subD, modD, divD, powD, ltD, leD, gtD, geD, dLc, dFor, dYes, dRaise, dMt, dMt0, dSl, dPart, dNoPart, dFmt, dJoined, dJs, dOrT, forD, diSeq, diRng1, diRng2, diEnum, diZip2, diZip3, dWhile, dLenSet, bindP, bindPs, wipeD, dListRng, gdStar, gdSub, List.map_cons, List.map_nil, eqD_ii, eqD_ss, eqD_bb, neD_ii, neD_ss, neD_bb, truD_bl, truD_int, truD_non, truD_str, truD_tup, truD_rol, isB_bl, walkD_tup, walkD_rol, walkD_str, lenD_str, lenD_tupE, lenD_rolE, rdI_ii, addD_ii, addD_ss, addD_tt, mulD_ii, absD_i, maxD_ii, minD_ii, divmodD_ii, strD_i, intD_s, isND_nn, zero_le_size, List.length_cons, List.length_nil]
    have L1 : Less G (gupd G' e1 (.lst [])) := hLess.new he1
    have h1' : gupd G' e1 (.lst []) a1 = some (.lst (nls L)) := by rw [gupd_ne h1e]; exact h1
    have h2' : gupd G' e1 (.lst []) f = some (.lst (nls F)) := by rw [gupd_ne h2e]; exact h2
    generalize gupd G' e1 (.lst []) = G1 at L1 h1' h2'
    cases L with
    | nil =>
      simp
      rw [List.append_nil] at hP
      exact fo0 (hQ F f G1 hP hF L1 hf0 h2')
    | cons k0 r =>
      have hLr : ∀ k ∈ k0 :: r, k < row.length := fun k hk => hlt _ hP k (List.mem_append_right _ hk)
      have hnd : (k0 :: r).Nodup := by
        have := hP.nodup_iff.mpr List.nodup_range
        exact (List.nodup_append.mp this).2.1
      simp only [ne_eq, reduceCtorEq, not_false_eq_true, decide_true, if_true]
      refine ixD_ref (i := 0) h1' (d := .int k0) rfl ?_
      simp only [dSeq, dNext, dRet, dRetN, dIfS, dDrop, dAsg, gdName, gdTup, gdNil, gdCons, dPar, dVar, dC, dOp, dCB, dCall, dCons, dNil, dTup, dLst, dB, dNot, dTru, dAnd, dOr, dAndV, dOrV, dNotV, dIf, dChain, dNeg, startD, List.map, List.length, List.replicate, List.append, List.cons_append, List.nil_append, List.append_nil, List.getElem?_cons_zero, List.getElem?_cons_succ, List.set_cons_zero, List.set_cons_succ, List.set_nil, Nat.sub_self, Nat.add_one_sub_one, Nat.reduceAdd, Nat.reduceSub, List.replicate_zero, List.replicate_succ, ixD_tup0, ixD_tup1, ixD_enc0, ixD_enc1, two_le_size, true_and, subD, modD, divD, powD, ltD, leD, gtD, geD, dLc, dFor, dYes, dRaise, dMt, dMt0, dSl, dPart, dNoPart, dFmt, dJoined, dJs, dOrT, forD, diSeq, diRng1, diRng2, diEnum, diZip2, diZip3, dWhile, dLenSet, bindP, bindPs, wipeD, dListRng, gdStar, gdSub, List.map_cons, List.map_nil, eqD_ii, eqD_ss, eqD_bb, neD_ii, neD_ss, neD_bb, truD_bl, truD_int, truD_non, truD_str, truD_tup, truD_rol, isB_bl, walkD_tup, walkD_rol, walkD_str, lenD_str, lenD_tupE, lenD_rolE, rdI_ii, addD_ii, addD_ss, addD_tt, mulD_ii, absD_i, maxD_ii, minD_ii, divmodD_ii, strD_i, intD_s, isND_nn, zero_le_size, List.length_cons, List.length_nil]
      refine ⟨_, h1', forD_inv (fun i δ G' => G' = G1 ∧ ∃ (t : Nat) (x4 : Option D), δ = [some a, some (.ref a1), some (.ref f), some (.int t), x4] ∧ t ∈ k0 :: r ∧ ∀ y ∈ (k0 :: r).take i, rv row y ≤ rv row t) ⟨rfl, k0, _, rfl, by simp, by simp⟩ ?_ ?_⟩
      · rintro i d δ G' N hd ⟨rfl, t, x4, rfl, ht, hmax⟩ hN
        obtain ⟨k, hk, rfl⟩ := map_at hd
        have hkL : k ∈ k0 :: r := List.mem_of_getElem? hk
        refine ⟨h1', ?_⟩
        simp only [dSeq, dNext, dRet, dRetN, dIfS, dDrop, dAsg, gdName, gdTup, gdNil, gdCons, dPar, dVar, dC, dOp, dCB, dCall, dCons, dNil, dTup, dLst, dB, dNot, dTru, dAnd, dOr, dAndV, dOrV, dNotV, dIf, dChain, dNeg, startD, List.map, List.length, List.replicate, List.append, List.cons_append, List.nil_append, List.append_nil, List.getElem?_cons_zero, List.getElem?_cons_succ, List.set_cons_zero, List.set_cons_succ, List.set_nil, Nat.sub_self, Nat.add_one_sub_one, Nat.reduceAdd, Nat.reduceSub, List.replicate_zero, List.replicate_succ, ixD_tup0, ixD_tup1, ixD_enc0, ixD_enc1, two_le_size, true_and, subD, modD, divD, powD, ltD, leD, gtD, geD, dLc, dFor, dYes, dRaise, dMt, dMt0, dSl, dPart, dNoPart, dFmt, dJoined, dJs, dOrT, forD, diSeq, diRng1, diRng2, diEnum, diZip2, diZip3, dWhile, dLenSet, bindP, bindPs, wipeD, dListRng, gdStar, gdSub, List.map_cons, List.map_nil, eqD_ii, eqD_ss, eqD_bb, neD_ii, neD_ss, neD_bb, truD_bl, truD_int, truD_non, truD_str, truD_tup, truD_rol, isB_bl, walkD_tup, walkD_rol, walkD_str, lenD_str, lenD_tupE, lenD_rolE, rdI_ii, addD_ii, addD_ss, addD_tt, mulD_ii, absD_i, maxD_ii, minD_ii, divmodD_ii, strD_i, intD_s, isND_nn, zero_le_size, List.length_cons, List.length_nil, sp__law_less, sp2]
        refine ixD_seq (ha.less L1) (rvm t (hLr t ht)) (ixD_seq (ha.less L1) (rvm k (hLr k hkL)) ?_)
        refine ⟨_, _, rfl, rfl, (hr.rv t).mono (by decide), (hr.rv k).mono (by decide), ?_⟩
        try simp only [dSeq, dNext, dRet, dRetN, dIfS, dDrop, dAsg, gdName, gdTup, gdNil, gdCons, dPar, dVar, dC, dOp, dCB, dCall, dCons, dNil, dTup, dLst, dB, dNot, dTru, dAnd, dOr, dAndV, dOrV, dNotV, dIf, dChain, dNeg, startD, List.map, List.length, List.replicate, List.append, List.cons_append, List.nil_append, List.append_nil, List.getElem?_cons_zero, List.getElem?_cons_succ, List.set_cons_zero, List.set_cons_succ, List.set_nil, Nat.sub_self, Nat.add_one_sub_one, Nat.reduceAdd, Nat.reduceSub, List.replicate_zero, List.replicate_succ, ixD_tup0, ixD_tup1, ixD_enc0, ixD_enc1, two_le_size, true_and, subD, modD, divD, powD, ltD, leD, gtD, geD, dLc, dFor, dYes, dRaise, dMt, dMt0, dSl, dPart, dNoPart, dFmt, dJoined, dJs, dOrT, forD, diSeq, diRng1, diRng2, diEnum, diZip2, diZip3, dWhile, dLenSet, bindP, bindPs, wipeD, dListRng, gdStar, gdSub, List.map_cons, List.map_nil, eqD_ii, eqD_ss, eqD_bb, neD_ii, neD_ss, neD_bb, truD_bl, truD_int, truD_non, truD_str, truD_tup, truD_rol, isB_bl, walkD_tup, walkD_rol, walkD_str, lenD_str, lenD_tupE, lenD_rolE, rdI_ii, addD_ii, addD_ss, addD_tt, mulD_ii, absD_i, maxD_ii, minD_ii, divmodD_ii, strD_i, intD_s, isND_nn, zero_le_size, List.length_cons, List.length_nil]
        have hmem : ∀ y ∈ (k0 :: r).take (i + 1), y ∈ (k0 :: r).take i ∨ y = k := fun y hy => by
          rw [List.take_add_one, hk] at hy
          simpa using hy
        by_cases hc : rv row t < rv row k
        · simp only [hc, decide_true, if_true]
          refine hN _ _ ⟨rfl, k, _, rfl, hkL, fun y hy => ?_⟩
          rcases hmem y hy with h | rfl
          · have := hmax y h; grind
          · grind
        · simp only [hc, decide_false, Bool.false_eq_true, if_false]
          refine hN _ _ ⟨rfl, t, _, rfl, ht, fun y hy => ?_⟩
          rcases hmem y hy with h | rfl
          · exact hmax y h
          · grind
      · rintro δ G' ⟨rfl, t, x4, rfl, ht, hmax⟩
        rw [nls, List.length_map, List.take_of_length_le (Nat.le_refl _)] at hmax
        refine ⟨h1', ?_⟩
        simp only [dSeq, dNext, dRet, dRetN, dIfS, dDrop, dAsg, gdName, gdTup, gdNil, gdCons, dPar, dVar, dC, dOp, dCB, dCall, dCons, dNil, dTup, dLst, dB, dNot, dTru, dAnd, dOr, dAndV, dOrV, dNotV, dIf, dChain, dNeg, startD, List.map, List.length, List.replicate, List.append, List.cons_append, List.nil_append, List.append_nil, List.getElem?_cons_zero, List.getElem?_cons_succ, List.set_cons_zero, List.set_cons_succ, List.set_nil, Nat.sub_self, Nat.add_one_sub_one, Nat.reduceAdd, Nat.reduceSub, List.replicate_zero, List.replicate_succ, ixD_tup0, ixD_tup1, ixD_enc0, ixD_enc1, two_le_size, true_and, subD, modD, divD, powD, ltD, leD, gtD, geD, dLc, dFor, dYes, dRaise, dMt, dMt0, dSl, dPart, dNoPart, dFmt, dJoined, dJs, dOrT, forD, diSeq, diRng1, diRng2, diEnum, diZip2, diZip3, dWhile, dLenSet, bindP, bindPs, wipeD, dListRng, gdStar, gdSub, List.map_cons, List.map_nil, eqD_ii, eqD_ss, eqD_bb, neD_ii, neD_ss, neD_bb, truD_bl, truD_int, truD_non, truD_str, truD_tup, truD_rol, isB_bl, walkD_tup, walkD_rol, walkD_str, lenD_str, lenD_tupE, lenD_rolE, rdI_ii, addD_ii, addD_ss, addD_tt, mulD_ii, absD_i, maxD_ii, minD_ii, divmodD_ii, strD_i, intD_s, isND_nn, zero_le_size, List.length_cons, List.length_nil, appendD]
        have hlen := hP.length_eq
        rw [List.length_append, List.length_range] at hlen
        refine ⟨tyD_lst h2', _, h2', by rw [nls, List.length_map, sizeLine_eq]; omega, ?_⟩
        have h1f : gupd G' f (.lst (nls F ++ [D.int t])) a1 = some (.lst (nls (k0 :: r))) := by rw [gupd_ne hne]; exact h1'
        refine walkD_lst h1f fun l hl => ?_
        have hlf := gupd_none hl
        refine lcD_map (fun k : Nat => if (!decide (k = t)) then some (D.int k) else none) hl (by simp at hlen ⊢; rw [sizeLine_eq]; omega) (fun acc G2 L2 => L2 _ _ (by rw [gupd_ne (ne_g h1f hl)]; exact h1f)) (fun k hk => ⟨_, rfl, fun acc G2 N M L2 n1 n2 => ?_⟩) (fun G2 L2 => ?_)
        · simp only [dSeq, dNext, dRet, dRetN, dIfS, dDrop, dAsg, gdName, gdTup, gdNil, gdCons, dPar, dVar, dC, dOp, dCB, dCall, dCons, dNil, dTup, dLst, dB, dNot, dTru, dAnd, dOr, dAndV, dOrV, dNotV, dIf, dChain, dNeg, startD, List.map, List.length, List.replicate, List.append, List.cons_append, List.nil_append, List.append_nil, List.getElem?_cons_zero, List.getElem?_cons_succ, List.set_cons_zero, List.set_cons_succ, List.set_nil, Nat.sub_self, Nat.add_one_sub_one, Nat.reduceAdd, Nat.reduceSub, List.replicate_zero, List.replicate_succ, ixD_tup0, ixD_tup1, ixD_enc0, ixD_enc1, two_le_size, true_and, subD, modD, divD, powD, ltD, leD, gtD, geD, dLc, dFor, dYes, dRaise, dMt, dMt0, dSl, dPart, dNoPart, dFmt, dJoined, dJs, dOrT, forD, diSeq, diRng1, diRng2, diEnum, diZip2, diZip3, dWhile, dLenSet, bindP, bindPs, wipeD, dListRng, gdStar, gdSub, List.map_cons, List.map_nil, eqD_ii, eqD_ss, eqD_bb, neD_ii, neD_ss, neD_bb, truD_bl, truD_int, truD_non, truD_str, truD_tup, truD_rol, isB_bl, walkD_tup, walkD_rol, walkD_str, lenD_str, lenD_tupE, lenD_rolE, rdI_ii, addD_ii, addD_ss, addD_tt, mulD_ii, absD_i, maxD_ii, minD_ii, divmodD_ii, strD_i, intD_s, isND_nn, zero_le_size, List.length_cons, List.length_nil]
          by_cases hkt : k = t
          · subst hkt; simp; exact n2 _ (by simp) L2
          · have : ¬ ((k : Int) = t) := by omega
            simp [this]; exact n1 _ _ (by simp [hkt]) L2
        · rw [nls_filter] at L2
          have hp2 : (k0 :: r).Perm (t :: (k0 :: r).filter fun k => !decide (k = t)) := take_out hnd ht
          have hl2 := hp2.length_eq
          have hl3 : (k0 :: r).length = ((k0 :: r).filter fun k => !decide (k = t)).length + 1 := hl2
          refine ⟨((k0 :: r).filter fun k => !decide (k = t)).length, Nat.lt_of_lt_of_eq (Nat.lt_succ_self _) hl3.symm, l, (k0 :: r).filter (fun k => !decide (k = t)), F ++ [t], _, _, rfl, rfl, L2.at, ?_, ?_, ?_, ?_, ?_, ?_⟩
          · rw [L2 f _ (by rw [gupd_ne hlf.1.symm]; exact gupd_same)]; simp [nls]
          · exact fun z => hlf.1 z
          · refine .trans ?_ hP
            rw [List.append_assoc]
            exact List.Perm.append_left F hp2.symm
          · refine List.pairwise_append.mpr ⟨hF, by simp, fun x hx y hy => ?_⟩
            rw [List.mem_singleton.mp hy]
            exact hFL x hx t ht
          · intro x hx y hy
            have hy' : y ∈ k0 :: r := (List.mem_filter.mp hy).1
            rcases List.mem_append.mp hx with hx | hx
            · exact hFL x hx y hy'
            · rw [List.mem_singleton.mp hx]; exact hmax y hy'
          · exact ((L1.put hf0).new hl).trans L2

end
end Q
set_option maxHeartbeats 4000000
namespace Q
open PySem PySem.Spec PyProof.Rows L2

section
variable {P : Program} {w : World} {K : PySem.W.Frag} {mg : Str → Option Value} {base : Heap}
def sp__law_number : DSp := sp1 fun a G Q _ => ∃ p, a = .ref p ∧ Pot G p ∧ ∀ (i : Int) G2, i.natAbs ≤ 10 ^ 29 → Pl p G G2 → Q (.int i) G2
abbrev s__law_number : Stmt := topS 53
abbrev N__law_number : List Str := ["pot", "far"]
theorem sc__law_number : FnScope N__law_number ["pot"] (defScope s__law_number) := ⟨rfl, rfl, rfl, by decide +kernel, rfl, by decide +kernel, by decide +kernel⟩
theorem ok__law_number (F : FunH K mg "_law_number" s__law_number) (T : Tx K mg) (h__law_digit : Has P w K mg base 1 "_law_digit" 2 [] sp__law_digit) : Has P w K mg base 2 "_law_number" 1 [] sp__law_number := by
  refine Has.ofF F sc__law_number (fun _ _ _ _ _ _ us hl => match us, hl with | [_], _ => rfl) len1 fun f cdv A outer s H E ds G Q Ed B hp h => ⟨_, (s_cons (s_set 1 sc__law_number.nd (d_op o_add (d_op o_sub (d_call h__law_digit B (a_cons (d_var 0) (a_cons (d_op o_sub (d_op o_mul d_int (d_op o_pow d_int d_int)) d_int) a_nil))) (d_op o_pow d_int d_int)) d_int))
 (s_one (s_ret (d_ix (d_lst (a_cons (d_op o_sub (d_call h__law_digit B (a_cons (d_var 0) (a_cons d_int a_nil))) d_int) (a_cons (d_op o_sub (d_call h__law_digit B (a_cons (d_var 0) (a_cons d_int a_nil))) d_int) (a_cons (d_op o_sub (d_call h__law_digit B (a_cons (d_var 0) (a_cons d_int a_nil))) d_int) (a_cons (d_var 1) a_nil))))) (d_call h__law_digit B (a_cons (d_var 0) (a_cons d_int a_nil))))))), ?_⟩

  obtain ⟨a, rfl, p, rfl, hp, hQ⟩ := sp1_ex h
  have e29 : (10 : Int) ^ (29 : Int).toNat = 100000000000000000000000000000 := by decide
  have c1 : CPow 10 29 := ⟨by decide, by decide, by decide⟩
  simp only [dSeq, dNext, dRet, dRetN, dIfS, dDrop, dAsg, gdName, gdTup, gdNil, gdCons, dPar, dVar, dC, dOp, dCB, dCall, dCons, dNil, dTup, dLst, dB, dNot, dTru, dAnd, dOr, dAndV, dOrV, dNotV, dIf, dChain, dNeg, startD, List.map, List.length, List.replicate, List.append, List.cons_append, List.nil_append, List.append_nil, List.getElem?_cons_zero, List.getElem?_cons_succ, List.set_cons_zero, List.set_cons_succ, List.set_nil, Nat.sub_self, Nat.add_one_sub_one, Nat.reduceAdd, Nat.reduceSub, List.replicate_zero, List.replicate_succ, ixD_tup0, ixD_tup1, ixD_enc0, ixD_enc1, two_le_size, true_and, subD, modD, divD, powD, ltD, leD, gtD, geD, dLc, dFor, dYes, dRaise, dMt, dMt0, dSl, dPart, dNoPart, dFmt, dJoined, dJs, dOrT, forD, diSeq, diRng1, diRng2, diEnum, diZip2, diZip3, dWhile, dLenSet, bindP, bindPs, wipeD, dListRng, gdStar, gdSub, List.map_cons, List.map_nil, eqD_ii, eqD_ss, eqD_bb, neD_ii, neD_ss, neD_bb, truD_bl, truD_int, truD_non, truD_str, truD_tup, truD_rol, isB_bl, walkD_tup, walkD_rol, walkD_str, lenD_str, lenD_tupE, lenD_rolE, rdI_ii, addD_ii, addD_ss, addD_tt, mulD_ii, absD_i, maxD_ii, minD_ii, divmodD_ii, strD_i, intD_s, isND_nn, zero_le_size, List.length_cons, List.length_nil, sp__law_digit, sp2, e29]
  refine ⟨c1, .inl (.inl ⟨by decide, by decide⟩), ⟨p, _, rfl, rfl, hp, by decide, by decide, fun far G1 f1 f2 L1 => ?_⟩⟩
  try simp only [dSeq, dNext, dRet, dRetN, dIfS, dDrop, dAsg, gdName, gdTup, gdNil, gdCons, dPar, dVar, dC, dOp, dCB, dCall, dCons, dNil, dTup, dLst, dB, dNot, dTru, dAnd, dOr, dAndV, dOrV, dNotV, dIf, dChain, dNeg, startD, List.map, List.length, List.replicate, List.append, List.cons_append, List.nil_append, List.append_nil, List.getElem?_cons_zero, List.getElem?_cons_succ, List.set_cons_zero, List.set_cons_succ, List.set_nil, Nat.sub_self, Nat.add_one_sub_one, Nat.reduceAdd, Nat.reduceSub, List.replicate_zero, List.replicate_succ, ixD_tup0, ixD_tup1, ixD_enc0, ixD_enc1, two_le_size, true_and, subD, modD, divD, powD, ltD, leD, gtD, geD, dLc, dFor, dYes, dRaise, dMt, dMt0, dSl, dPart, dNoPart, dFmt, dJoined, dJs, dOrT, forD, diSeq, diRng1, diRng2, diEnum, diZip2, diZip3, dWhile, dLenSet, bindP, bindPs, wipeD, dListRng, gdStar, gdSub, List.map_cons, List.map_nil, eqD_ii, eqD_ss, eqD_bb, neD_ii, neD_ss, neD_bb, truD_bl, truD_int, truD_non, truD_str, truD_tup, truD_rol, isB_bl, walkD_tup, walkD_rol, walkD_str, lenD_str, lenD_tupE, lenD_rolE, rdI_ii, addD_ii, addD_ss, addD_tt, mulD_ii, absD_i, maxD_ii, minD_ii, divmodD_ii, strD_i, intD_s, isND_nn, zero_le_size, List.length_cons, List.length_nil]
  refine ⟨c1, ⟨p, _, rfl, rfl, L1.pot, by decide, by decide, fun x1 G2 a1 a2 L2 => ?_⟩⟩
  try simp only [dSeq, dNext, dRet, dRetN, dIfS, dDrop, dAsg, gdName, gdTup, gdNil, gdCons, dPar, dVar, dC, dOp, dCB, dCall, dCons, dNil, dTup, dLst, dB, dNot, dTru, dAnd, dOr, dAndV, dOrV, dNotV, dIf, dChain, dNeg, startD, List.map, List.length, List.replicate, List.append, List.cons_append, List.nil_append, List.append_nil, List.getElem?_cons_zero, List.getElem?_cons_succ, List.set_cons_zero, List.set_cons_succ, List.set_nil, Nat.sub_self, Nat.add_one_sub_one, Nat.reduceAdd, Nat.reduceSub, List.replicate_zero, List.replicate_succ, ixD_tup0, ixD_tup1, ixD_enc0, ixD_enc1, two_le_size, true_and, subD, modD, divD, powD, ltD, leD, gtD, geD, dLc, dFor, dYes, dRaise, dMt, dMt0, dSl, dPart, dNoPart, dFmt, dJoined, dJs, dOrT, forD, diSeq, diRng1, diRng2, diEnum, diZip2, diZip3, dWhile, dLenSet, bindP, bindPs, wipeD, dListRng, gdStar, gdSub, List.map_cons, List.map_nil, eqD_ii, eqD_ss, eqD_bb, neD_ii, neD_ss, neD_bb, truD_bl, truD_int, truD_non, truD_str, truD_tup, truD_rol, isB_bl, walkD_tup, walkD_rol, walkD_str, lenD_str, lenD_tupE, lenD_rolE, rdI_ii, addD_ii, addD_ss, addD_tt, mulD_ii, absD_i, maxD_ii, minD_ii, divmodD_ii, strD_i, intD_s, isND_nn, zero_le_size, List.length_cons, List.length_nil]
  refine ⟨p, _, rfl, rfl, L2.pot, by decide, by decide, fun x2 G3 b1 b2 L3 => ?_⟩
  try simp only [dSeq, dNext, dRet, dRetN, dIfS, dDrop, dAsg, gdName, gdTup, gdNil, gdCons, dPar, dVar, dC, dOp, dCB, dCall, dCons, dNil, dTup, dLst, dB, dNot, dTru, dAnd, dOr, dAndV, dOrV, dNotV, dIf, dChain, dNeg, startD, List.map, List.length, List.replicate, List.append, List.cons_append, List.nil_append, List.append_nil, List.getElem?_cons_zero, List.getElem?_cons_succ, List.set_cons_zero, List.set_cons_succ, List.set_nil, Nat.sub_self, Nat.add_one_sub_one, Nat.reduceAdd, Nat.reduceSub, List.replicate_zero, List.replicate_succ, ixD_tup0, ixD_tup1, ixD_enc0, ixD_enc1, two_le_size, true_and, subD, modD, divD, powD, ltD, leD, gtD, geD, dLc, dFor, dYes, dRaise, dMt, dMt0, dSl, dPart, dNoPart, dFmt, dJoined, dJs, dOrT, forD, diSeq, diRng1, diRng2, diEnum, diZip2, diZip3, dWhile, dLenSet, bindP, bindPs, wipeD, dListRng, gdStar, gdSub, List.map_cons, List.map_nil, eqD_ii, eqD_ss, eqD_bb, neD_ii, neD_ss, neD_bb, truD_bl, truD_int, truD_non, truD_str, truD_tup, truD_rol, isB_bl, walkD_tup, walkD_rol, walkD_str, lenD_str, lenD_tupE, lenD_rolE, rdI_ii, addD_ii, addD_ss, addD_tt, mulD_ii, absD_i, maxD_ii, minD_ii, divmodD_ii, strD_i, intD_s, isND_nn, zero_le_size, List.length_cons, List.length_nil]
  refine ⟨p, _, rfl, rfl, L3.pot, by decide, by decide, fun x3 G4 d1 d2 L4 => ?_⟩
  try simp only [dSeq, dNext, dRet, dRetN, dIfS, dDrop, dAsg, gdName, gdTup, gdNil, gdCons, dPar, dVar, dC, dOp, dCB, dCall, dCons, dNil, dTup, dLst, dB, dNot, dTru, dAnd, dOr, dAndV, dOrV, dNotV, dIf, dChain, dNeg, startD, List.map, List.length, List.replicate, List.append, List.cons_append, List.nil_append, List.append_nil, List.getElem?_cons_zero, List.getElem?_cons_succ, List.set_cons_zero, List.set_cons_succ, List.set_nil, Nat.sub_self, Nat.add_one_sub_one, Nat.reduceAdd, Nat.reduceSub, List.replicate_zero, List.replicate_succ, ixD_tup0, ixD_tup1, ixD_enc0, ixD_enc1, two_le_size, true_and, subD, modD, divD, powD, ltD, leD, gtD, geD, dLc, dFor, dYes, dRaise, dMt, dMt0, dSl, dPart, dNoPart, dFmt, dJoined, dJs, dOrT, forD, diSeq, diRng1, diRng2, diEnum, diZip2, diZip3, dWhile, dLenSet, bindP, bindPs, wipeD, dListRng, gdStar, gdSub, List.map_cons, List.map_nil, eqD_ii, eqD_ss, eqD_bb, neD_ii, neD_ss, neD_bb, truD_bl, truD_int, truD_non, truD_str, truD_tup, truD_rol, isB_bl, walkD_tup, walkD_rol, walkD_str, lenD_str, lenD_tupE, lenD_rolE, rdI_ii, addD_ii, addD_ss, addD_tt, mulD_ii, absD_i, maxD_ii, minD_ii, divmodD_ii, strD_i, intD_s, isND_nn, zero_le_size, List.length_cons, List.length_nil]
  refine ⟨by rw [sizeLine_eq]; decide, fun q hq => ?_⟩
  have L := ((L1.trans L2).trans L3).trans L4
  have hqp : q ≠ p := fun z => by subst z; obtain ⟨o, e⟩ := L.pot.some; rw [hq] at e; cases e
  refine ⟨p, _, rfl, rfl, (L.new hq).pot, by decide, by decide, fun x4 G5 g1 g2 L5 => ?_⟩
  refine ixD_pick (L5.old q _ hqp gupd_same) g1 (by simpa using g2) fun x hx => ?_
  have fin := (L.new (o := .lst [.int (x1 - 3), .int (x2 - 3), .int (x3 - 100), .int (far - 100000000000000000000000000000 + 1)]) hq).trans L5
  simp at hx
  have e : (10 : Nat) ^ 29 = 100000000000000000000000000000 := by decide
  rcases hx with rfl | rfl | rfl | rfl
  · exact fo0 (hQ _ _ (by rw [e]; omega) fin)
  · exact fo0 (hQ _ _ (by rw [e]; omega) fin)
  · exact fo0 (hQ _ _ (by rw [e]; omega) fin)
  · exact fo0 (hQ _ _ (by rw [e]; omega) fin)

def sp__law_row : DSp := sp2 fun a b G Q _ => ∃ (p : Addr) (n : Nat), a = .ref p ∧ b = .int n ∧ Pot G p ∧ n ≤ 20 ∧ ∀ row q G2, row.length = n → LRow row → row.sum = 0 → Pl p G G2 → G q = none → G2 q = some (.lst (row.map encQ)) → Q (.ref q) G2
abbrev s__law_row : Stmt := topS 54
abbrev N__law_row : List Str := ["pot", "many", "row", "k", "whole", "one"]
theorem sc__law_row : FnScope N__law_row ["pot", "many"] (defScope s__law_row) := ⟨rfl, rfl, rfl, by decide +kernel, rfl, by decide +kernel, by decide +kernel⟩
theorem ok__law_row (F : FunH K mg "_law_row" s__law_row) (T : Tx K mg) (h__law_digit : Has P w K mg base 1 "_law_digit" 2 [] sp__law_digit) (h__law_low : Has P w K mg base 1 "_law_low" 2 [] sp__law_low) (h__law_plus : Has P w K mg base 2 "_law_plus" 2 [] sp__law_plus) (h__law_sum : Has P w K mg base 3 "_law_sum" 1 [] sp__law_sum) (h__law_number : Has P w K mg base 2 "_law_number" 1 [] sp__law_number) : Has P w K mg base 4 "_law_row" 2 [] sp__law_row := by
  refine Has.ofF F sc__law_row (fun _ _ _ _ _ _ us hl => match us, hl with | [_, _], _ => rfl) len2 fun f cdv A outer s H E ds G Q Ed B hp h => ⟨_, (s_cons (s_setLc 2 (own := [("k", 3)]) (p := .nm 3) B.hc sc__law_row.nd (blkOk_by (own := [("k", 3)]) (N := N__law_row) (by kernel_rfl)) (by decide) (sw_true rfl rfl rfl (by decide +kernel)) (i_rng1 T.b.range (a_cons (d_var 1) a_nil)) (fun s2 H2 C2 cl2 fp2 => (p_name (i := 3) sc__law_row.nd)) (fun s2 H2 C2 cl2 fp2 => ts_nil) (fun s2 H2 C2 cl2 fp2 => (d_call h__law_low (B.blk s2 H2 _ _ fp2) (a_cons (d_call h__law_number (B.blk s2 H2 _ _ fp2) (a_cons (d_var 0) a_nil)) (a_cons (d_ix (d_lst (a_cons d_int (a_cons d_int (a_cons d_int (a_cons d_int (a_cons d_int (a_cons d_int (a_cons d_int a_nil)))))))) (d_call h__law_digit (B.blk s2 H2 _ _ fp2) (a_cons (d_var 0) (a_cons d_int a_nil)))) a_nil)))))
 (s_cons (s_set 4 sc__law_row.nd (d_call h__law_sum B (a_cons (d_var 2) a_nil)))
 (s_one (s_ret (d_lc (own := [("one", 5)]) (p := .nm 5) B.hc sc__law_row.nd (blkOk_by (own := [("one", 5)]) (N := N__law_row) (by kernel_rfl)) (by decide) (i_seq (d_var 2)) (fun s1 H1 C1 cl1 fp1 => (p_name (i := 5) sc__law_row.nd)) (fun s1 H1 C1 cl1 fp1 => ts_nil) (fun s1 H1 C1 cl1 fp1 => (d_call h__law_plus (B.blk s1 H1 _ _ fp1) (a_cons (d_var 5) (a_cons (d_call h__law_low (B.blk s1 H1 _ _ fp1) (a_cons (d_op o_sub d_int (d_ix (d_var 4) d_int)) (a_cons (d_op o_mul (d_ix (d_var 4) d_int) (d_var 1)) a_nil))) a_nil))))))))), ?_⟩

  obtain ⟨a, b, rfl, p, n, rfl, rfl, hp, hn, hQ⟩ := sp2_ex h
  simp only [dSeq, dNext, dRet, dRetN, dIfS, dDrop, dAsg, gdName, gdTup, gdNil, gdCons, dPar, dVar, dC, dOp, dCB, dCall, dCons, dNil, dTup, dLst, dB, dNot, dTru, dAnd, dOr, dAndV, dOrV, dNotV, dIf, dChain, dNeg, startD, List.map, List.length, List.replicate, List.append, List.cons_append, List.nil_append, List.append_nil, List.getElem?_cons_zero, List.getElem?_cons_succ, List.set_cons_zero, List.set_cons_succ, List.set_nil, Nat.sub_self, Nat.add_one_sub_one, Nat.reduceAdd, Nat.reduceSub, List.replicate_zero, List.replicate_succ, ixD_tup0, ixD_tup1, ixD_enc0, ixD_enc1, two_le_size, true_and, subD, modD, divD, powD, ltD, leD, gtD, geD, dLc, dFor, dYes, dRaise, dMt, dMt0, dSl, dPart, dNoPart, dFmt, dJoined, dJs, dOrT, forD, diSeq, diRng1, diRng2, diEnum, diZip2, diZip3, dWhile, dLenSet, bindP, bindPs, wipeD, dListRng, gdStar, gdSub, List.map_cons, List.map_nil, eqD_ii, eqD_ss, eqD_bb, neD_ii, neD_ss, neD_bb, truD_bl, truD_int, truD_non, truD_str, truD_tup, truD_rol, isB_bl, walkD_tup, walkD_rol, walkD_str, lenD_str, lenD_tupE, lenD_rolE, rdI_ii, addD_ii, addD_ss, addD_tt, mulD_ii, absD_i, maxD_ii, minD_ii, divmodD_ii, strD_i, intD_s, isND_nn, zero_le_size, List.length_cons, List.length_nil]
  refine ⟨⟨by omega, by omega⟩, fun q hq => ?_⟩
  have hqp : q ≠ p := fun z => by subst z; obtain ⟨o, e⟩ := hp.some; rw [hq] at e; cases e
  refine lcD_inv (fun i acc G' => Pl p G G' ∧ G' q = some (.lst acc) ∧ ∃ xs : List Rat, acc = xs.map encQ ∧ xs.length = i ∧ ∀ x ∈ xs, Fz 60 (60 * 10 ^ 29) x) ⟨(Pl.refl hp).new hq, gupd_same, [], rfl, rfl, by simp⟩ (by rw [rangeD_length, sizeLine_eq]; omega) ?_ ?_
  · rintro i d acc G' hd hai ⟨L, ha, xs, rfl, hxi, hxs⟩
    obtain ⟨hi, rfl⟩ := rangeD_at hd
    refine ⟨trivial, _, rfl, fun N M hN _ => ?_⟩
    simp only [dSeq, dNext, dRet, dRetN, dIfS, dDrop, dAsg, gdName, gdTup, gdNil, gdCons, dPar, dVar, dC, dOp, dCB, dCall, dCons, dNil, dTup, dLst, dB, dNot, dTru, dAnd, dOr, dAndV, dOrV, dNotV, dIf, dChain, dNeg, startD, List.map, List.length, List.replicate, List.append, List.cons_append, List.nil_append, List.append_nil, List.getElem?_cons_zero, List.getElem?_cons_succ, List.set_cons_zero, List.set_cons_succ, List.set_nil, Nat.sub_self, Nat.add_one_sub_one, Nat.reduceAdd, Nat.reduceSub, List.replicate_zero, List.replicate_succ, ixD_tup0, ixD_tup1, ixD_enc0, ixD_enc1, two_le_size, true_and, subD, modD, divD, powD, ltD, leD, gtD, geD, dLc, dFor, dYes, dRaise, dMt, dMt0, dSl, dPart, dNoPart, dFmt, dJoined, dJs, dOrT, forD, diSeq, diRng1, diRng2, diEnum, diZip2, diZip3, dWhile, dLenSet, bindP, bindPs, wipeD, dListRng, gdStar, gdSub, List.map_cons, List.map_nil, eqD_ii, eqD_ss, eqD_bb, neD_ii, neD_ss, neD_bb, truD_bl, truD_int, truD_non, truD_str, truD_tup, truD_rol, isB_bl, walkD_tup, walkD_rol, walkD_str, lenD_str, lenD_tupE, lenD_rolE, rdI_ii, addD_ii, addD_ss, addD_tt, mulD_ii, absD_i, maxD_ii, minD_ii, divmodD_ii, strD_i, intD_s, isND_nn, zero_le_size, List.length_cons, List.length_nil, sp__law_number, sp1, sp__law_digit, sp2, sp__law_low]
    refine ⟨p, rfl, L.pot, fun a G1 ha1 L1 => ⟨by rw [sizeLine_eq]; decide, fun r hr => ⟨p, 7, rfl, rfl, (L1.new hr).pot, by decide, by decide, fun d G2 h0 h7 L2 => ?_⟩⟩⟩
    have hrp : r ≠ p := fun z => by subst z; obtain ⟨o, e⟩ := L1.pot.some; rw [hr] at e; cases e
    refine ixD_pick (L2.old r _ hrp gupd_same) h0 (by simpa using h7) fun x hx => ?_
    have ha3 := L2.old q _ hqp (by rw [gupd_ne (ne_g (L1.old q _ hqp ha) hr)]; exact L1.old q _ hqp ha)
    have L4 := (L.trans (L1.new hr)).trans L2
    have hdx : ∃ (d : Int) (e : Nat), x = .int d ∧ 0 < d ∧ d < 100 ∧ d * e = 60 := by
      simp at hx
      rcases hx with rfl | rfl | rfl | rfl | rfl | rfl
      · exact ⟨1, 60, rfl, by decide, by decide, by decide⟩
      · exact ⟨2, 30, rfl, by decide, by decide, by decide⟩
      · exact ⟨3, 20, rfl, by decide, by decide, by decide⟩
      · exact ⟨4, 15, rfl, by decide, by decide, by decide⟩
      · exact ⟨12, 5, rfl, by decide, by decide, by decide⟩
      · exact ⟨60, 1, rfl, by decide, by decide, by decide⟩
    obtain ⟨d, e, rfl, hd0, hd1, hde⟩ := hdx
    have h100 : d.natAbs < 2 ^ 8900 := Nat.lt_of_lt_of_le (show d.natAbs < 2 ^ 7 by omega) (Nat.pow_le_pow_right (by decide) (by decide))
    refine ⟨_, _, rfl, rfl, hd0, h100, hN _ _ ha3 ⟨L4.put hq hqp, gupd_same, xs ++ [Rat.divInt a d], by simp, by simp [hxi], fun y hy => ?_⟩⟩
    rcases List.mem_append.mp hy with hy | hy
    · exact hxs y hy
    · rw [List.mem_singleton.mp hy]; exact fz_part hd0 hde ha1
  · rintro acc G' ⟨L, ha, xs, rfl, hxi, hxs⟩
    rw [rangeD_length] at hxi
    have hxn : xs.length = n := by simpa using hxi
    refine ⟨trivial, ?_⟩
    have hrok : Rok xs := ⟨60, 60 * 10 ^ 29, by decide, Nat.lt_of_lt_of_le (show 60 < 2 ^ 6 by decide) (Nat.pow_le_pow_right (by decide) (by decide)), by
      have : xs.length * (60 * 10 ^ 29) ≤ 20 * (60 * 10 ^ 29) := Nat.mul_le_mul_right _ (by omega)
      have h2 : 20 * (60 * 10 ^ 29) < 2 ^ 120 := by decide
      exact Nat.lt_of_le_of_lt this (Nat.lt_of_lt_of_le h2 (Nat.pow_le_pow_right (by decide) (by decide))), hxs⟩
    have hsm : SmK 130 xs.sum := by
      refine (Fz.sum hxs).sm (by decide) (by decide) ?_
      have : xs.length * (60 * 10 ^ 29) ≤ 20 * (60 * 10 ^ 29) := Nat.mul_le_mul_right _ (by omega)
      exact Nat.lt_of_le_of_lt this (by decide)
    simp only [dSeq, dNext, dRet, dRetN, dIfS, dDrop, dAsg, gdName, gdTup, gdNil, gdCons, dPar, dVar, dC, dOp, dCB, dCall, dCons, dNil, dTup, dLst, dB, dNot, dTru, dAnd, dOr, dAndV, dOrV, dNotV, dIf, dChain, dNeg, startD, List.map, List.length, List.replicate, List.append, List.cons_append, List.nil_append, List.append_nil, List.getElem?_cons_zero, List.getElem?_cons_succ, List.set_cons_zero, List.set_cons_succ, List.set_nil, Nat.sub_self, Nat.add_one_sub_one, Nat.reduceAdd, Nat.reduceSub, List.replicate_zero, List.replicate_succ, ixD_tup0, ixD_tup1, ixD_enc0, ixD_enc1, two_le_size, true_and, subD, modD, divD, powD, ltD, leD, gtD, geD, dLc, dFor, dYes, dRaise, dMt, dMt0, dSl, dPart, dNoPart, dFmt, dJoined, dJs, dOrT, forD, diSeq, diRng1, diRng2, diEnum, diZip2, diZip3, dWhile, dLenSet, bindP, bindPs, wipeD, dListRng, gdStar, gdSub, List.map_cons, List.map_nil, eqD_ii, eqD_ss, eqD_bb, neD_ii, neD_ss, neD_bb, truD_bl, truD_int, truD_non, truD_str, truD_tup, truD_rol, isB_bl, walkD_tup, walkD_rol, walkD_str, lenD_str, lenD_tupE, lenD_rolE, rdI_ii, addD_ii, addD_ss, addD_tt, mulD_ii, absD_i, maxD_ii, minD_ii, divmodD_ii, strD_i, intD_s, isND_nn, zero_le_size, List.length_cons, List.length_nil, sp__law_sum, sp1]
    refine ⟨xs, ha, hrok, walkD_lst ha fun r hr => ?_⟩
    have hrq : q ≠ r := ne_g ha hr
    have hrow := level_row hxs (by omega)
    refine lcD_map1 (fun x => encQ (x + Rat.divInt (0 - xs.sum.num) (xs.sum.den * xs.length))) hr (by rw [sizeLine_eq]; omega) (fun acc G2 L2 => L2 _ _ (by rw [gupd_ne hrq]; exact ha)) (fun x hx => ⟨_, rfl, fun acc G2 N L2 hN => ?_⟩) (fun G2 L2 => ?_)
    · have hx0 : 0 < xs.length := List.length_pos_of_mem hx
      simp only [dSeq, dNext, dRet, dRetN, dIfS, dDrop, dAsg, gdName, gdTup, gdNil, gdCons, dPar, dVar, dC, dOp, dCB, dCall, dCons, dNil, dTup, dLst, dB, dNot, dTru, dAnd, dOr, dAndV, dOrV, dNotV, dIf, dChain, dNeg, startD, List.map, List.length, List.replicate, List.append, List.cons_append, List.nil_append, List.append_nil, List.getElem?_cons_zero, List.getElem?_cons_succ, List.set_cons_zero, List.set_cons_succ, List.set_nil, Nat.sub_self, Nat.add_one_sub_one, Nat.reduceAdd, Nat.reduceSub, List.replicate_zero, List.replicate_succ, ixD_tup0, ixD_tup1, ixD_enc0, ixD_enc1, two_le_size, true_and, subD, modD, divD, powD, ltD, leD, gtD, geD, dLc, dFor, dYes, dRaise, dMt, dMt0, dSl, dPart, dNoPart, dFmt, dJoined, dJs, dOrT, forD, diSeq, diRng1, diRng2, diEnum, diZip2, diZip3, dWhile, dLenSet, bindP, bindPs, wipeD, dListRng, gdStar, gdSub, List.map_cons, List.map_nil, eqD_ii, eqD_ss, eqD_bb, neD_ii, neD_ss, neD_bb, truD_bl, truD_int, truD_non, truD_str, truD_tup, truD_rol, isB_bl, walkD_tup, walkD_rol, walkD_str, lenD_str, lenD_tupE, lenD_rolE, rdI_ii, addD_ii, addD_ss, addD_tt, mulD_ii, absD_i, maxD_ii, minD_ii, divmodD_ii, strD_i, intD_s, isND_nn, zero_le_size, List.length_cons, List.length_nil, sp__law_low, sp__law_plus, sp2]
      rw [← hxn]
      have hd8 : ((xs.sum.den : Int) * (xs.length : Nat)).natAbs < 2 ^ 8900 := by
        have h1 : ((xs.sum.den : Int) * (xs.length : Nat)).natAbs < 2 ^ (130 + 10) := natAbs_mul_lt (by simpa using hsm.2) (by simp; omega)
        exact Nat.lt_of_lt_of_le h1 (Nat.pow_le_pow_right (by decide) (by decide))
      refine ⟨mulOk_of (a := 130) (b := 10) (by simpa using hsm.2) (by simp; omega), _, _, rfl, rfl, Int.mul_pos hsm.den_pos (by omega), hd8, ?_⟩
      have hy := hrow.one (x := x + Rat.divInt (0 - xs.sum.num) (xs.sum.den * xs.length)) (List.mem_map.mpr ⟨x, hx, rfl⟩)
      refine ⟨_, _, rfl, rfl, (hrok.one hx).mono (by decide), ?_, hN _ L2⟩
      refine (SmK.divInt (k := 200) ?_ ?_ (Int.mul_pos hsm.den_pos (by omega))).mono (by decide)
      · have := hsm.1
        exact Nat.lt_of_lt_of_le (show (0 - xs.sum.num).natAbs < 2 ^ 130 by omega) (Nat.pow_le_pow_right (by decide) (by decide))
      · have h1 : ((xs.sum.den : Int) * (xs.length : Nat)).natAbs < 2 ^ (130 + 10) := natAbs_mul_lt (by simpa using hsm.2) (by simp; omega)
        exact Nat.lt_of_lt_of_le h1 (Nat.pow_le_pow_right (by decide) (by decide))
    · have hrG : G r = none := L.free hp.some hr
      exact fo0 (hQ (level xs) r G2 (by rw [level_length]; exact hxn) hrow (level_sum xs) ((L.new hr).less L2) hrG (by rw [L2.at]; simp [level, Function.comp_def]))

end
end Q
set_option maxHeartbeats 4000000
namespace Q
open PySem PySem.Spec PyProof.Rows L2

section
variable {P : Program} {w : World} {K : PySem.W.Frag} {mg : Str → Option Value} {base : Heap}
def sp__law_weight : DSp := sp1 fun a G Q _ => ∃ row : List Rat, SeqG G a (row.map encQ) ∧ LRow row ∧ row.length ≤ 20 ∧ ∀ W : Int, 1 ≤ W → W < 2 ^ 200 → (∀ k, 1 ≤ k → k < row.length → top row k ≤ bq W row.length k) → Q (.int W) G
abbrev s__law_weight : Stmt := topS 55
abbrev N__law_weight : List Str := ["row", "weight", "order", "k", "above", "below", "at", "by"]
theorem sc__law_weight : FnScope N__law_weight ["row"] (defScope s__law_weight) := ⟨rfl, rfl, rfl, by decide +kernel, rfl, by decide +kernel, by decide +kernel⟩
theorem ok__law_weight (F : FunH K mg "_law_weight" s__law_weight) (T : Tx K mg) (h__law_sum : Has P w K mg base 3 "_law_sum" 1 [] sp__law_sum) (h__law_first : Has P w K mg base 2 "_law_first" 1 [] sp__law_first) : Has P w K mg base 4 "_law_weight" 1 [] sp__law_weight := by
  refine Has.ofF F sc__law_weight (fun _ _ _ _ _ _ us hl => match us, hl with | [_], _ => rfl) len1 fun f cdv A outer s H E ds G Q Ed B hp h => ⟨_, (s_cons (s_set 1 sc__law_weight.nd d_int)
 (s_cons (s_set 2 sc__law_weight.nd (d_call h__law_first B (a_cons (d_var 0) a_nil)))
 (s_cons (s_for hp B.hc (i_rng2 T.b.range (a_cons d_int (a_cons (d_callB c_len T.b.len boot_len (a_cons (d_var 0) a_nil)) a_nil))) (g_name (i := 3) sc__law_weight.nd) (s_cons (s_asg (d_call h__law_sum B (a_cons (d_lc (own := [("at", 6)]) (p := .nm 6) B.hc sc__law_weight.nd (blkOk_by (own := [("at", 6)]) (N := N__law_weight) (by kernel_rfl)) (by decide) (i_seq (d_slice (d_var 2) o_none (o_some (d_var 3)))) (fun s1 H1 C1 cl1 fp1 => (p_name (i := 6) sc__law_weight.nd)) (fun s1 H1 C1 cl1 fp1 => ts_nil) (fun s1 H1 C1 cl1 fp1 => (d_ix (d_var 0) (d_var 6)))) a_nil)) (g_tup (n := 2) B.hc (gs_cons (g_name (i := 4) sc__law_weight.nd) (gs_cons (g_name (i := 5) sc__law_weight.nd) gs_nil))))
 (s_cons (s_set 7 sc__law_weight.nd (d_op o_mul (d_op o_mul (d_var 5) (d_var 3)) (d_op o_sub (d_callB c_len T.b.len boot_len (a_cons (d_var 0) a_nil)) (d_var 3))))
 (s_one (s_set 1 sc__law_weight.nd (d_callB (c_max B.hc) T.b.max boot_max (a_cons (d_var 1) (a_cons (d_op o_div (d_op o_sub (d_op o_add (d_op o_mul d_int (d_var 4)) (d_var 7)) d_int) (d_var 7)) a_nil))))))))
 (s_one (s_ret (d_var 1)))))), ?_⟩

  obtain ⟨a, rfl, row, ha, hl, hn, hQ⟩ := sp1_ex h
  simp only [dSeq, dNext, dRet, dRetN, dIfS, dDrop, dAsg, gdName, gdTup, gdNil, gdCons, dPar, dVar, dC, dOp, dCB, dCall, dCons, dNil, dTup, dLst, dB, dNot, dTru, dAnd, dOr, dAndV, dOrV, dNotV, dIf, dChain, dNeg, startD, List.map, List.length, List.replicate, List.append, List.cons_append, List.nil_append, List.append_nil, List.getElem?_cons_zero, List.getElem?_cons_succ, List.set_cons_zero, List.set_cons_succ, List.set_nil, Nat.sub_self, Nat.add_one_sub_one, Nat.reduceAdd, Nat.reduceSub, List.replicate_zero, List.replicate_succ, ixD_tup0, ixD_tup1, ixD_enc0, ixD_enc1, two_le_size, true_and, subD, modD, divD, powD, ltD, leD, gtD, geD, dLc, dFor, dYes, dRaise, dMt, dMt0, dSl, dPart, dNoPart, dFmt, dJoined, dJs, dOrT, forD, diSeq, diRng1, diRng2, diEnum, diZip2, diZip3, dWhile, dLenSet, bindP, bindPs, wipeD, dListRng, gdStar, gdSub, List.map_cons, List.map_nil, eqD_ii, eqD_ss, eqD_bb, neD_ii, neD_ss, neD_bb, truD_bl, truD_int, truD_non, truD_str, truD_tup, truD_rol, isB_bl, walkD_tup, walkD_rol, walkD_str, lenD_str, lenD_tupE, lenD_rolE, rdI_ii, addD_ii, addD_ss, addD_tt, mulD_ii, absD_i, maxD_ii, minD_ii, divmodD_ii, strD_i, intD_s, isND_nn, zero_le_size, List.length_cons, List.length_nil, sp__law_first, sp1]
  refine ⟨row, ha, hl.rok hn, by omega, fun ord o G1 hp hF hL ho hoo => ?_⟩
  have hlen : ord.length = row.length := by rw [hp.length_eq, List.length_range]
  have hdesc : ord.map (rv row) = desc row := by
    refine desc_unique ?_ (List.pairwise_map.mpr hF)
    have := hp.map (rv row)
    rwa [rv_range] at this
  refine lenD_seq (ha.less hL) ?_
  rw [List.length_map]
  refine ⟨⟨by decide, by decide, by omega, by omega⟩, forD_inv (fun i δ G' => Less G1 G' ∧ ∃ (W : Int) (x3 x4 x5 x6 x7 : Option D), δ = [some a, some (.int W), some (.ref o), x3, x4, x5, x6, x7] ∧ 1 ≤ W ∧ W < 2 ^ 200 ∧ ∀ k, 1 ≤ k → k ≤ i → k < row.length → top row k ≤ bq W row.length k) ⟨.refl _, 1, _, _, _, _, _, rfl, by decide, by decide, fun k h1 h2 => absurd h1 (by omega)⟩ ?_ ?_⟩
  · rintro i d δ G' N hd ⟨L, W, x3, x4, x5, x6, x7, rfl, hW1, hW2, hk⟩ hN
    obtain ⟨hi, rfl⟩ := rangeD_at hd
    have hi2 : i + 1 < row.length := by omega
    refine ⟨trivial, ?_⟩
    simp only [dSeq, dNext, dRet, dRetN, dIfS, dDrop, dAsg, gdName, gdTup, gdNil, gdCons, dPar, dVar, dC, dOp, dCB, dCall, dCons, dNil, dTup, dLst, dB, dNot, dTru, dAnd, dOr, dAndV, dOrV, dNotV, dIf, dChain, dNeg, startD, List.map, List.length, List.replicate, List.append, List.cons_append, List.nil_append, List.append_nil, List.getElem?_cons_zero, List.getElem?_cons_succ, List.set_cons_zero, List.set_cons_succ, List.set_nil, Nat.sub_self, Nat.add_one_sub_one, Nat.reduceAdd, Nat.reduceSub, List.replicate_zero, List.replicate_succ, ixD_tup0, ixD_tup1, ixD_enc0, ixD_enc1, two_le_size, true_and, subD, modD, divD, powD, ltD, leD, gtD, geD, dLc, dFor, dYes, dRaise, dMt, dMt0, dSl, dPart, dNoPart, dFmt, dJoined, dJs, dOrT, forD, diSeq, diRng1, diRng2, diEnum, diZip2, diZip3, dWhile, dLenSet, bindP, bindPs, wipeD, dListRng, gdStar, gdSub, List.map_cons, List.map_nil, eqD_ii, eqD_ss, eqD_bb, neD_ii, neD_ss, neD_bb, truD_bl, truD_int, truD_non, truD_str, truD_tup, truD_rol, isB_bl, walkD_tup, walkD_rol, walkD_str, lenD_str, lenD_tupE, lenD_rolE, rdI_ii, addD_ii, addD_ss, addD_tt, mulD_ii, absD_i, maxD_ii, minD_ii, divmodD_ii, strD_i, intD_s, isND_nn, zero_le_size, List.length_cons, List.length_nil, sp__law_sum, sp1]
    have e1 : (1 : Int) + (i : Nat) = ((i + 1 : Nat) : Int) := by omega
    rw [e1]
    refine slD_lst (L o _ hoo) fun s hs => ?_
    rw [cut_to]
    have et : (nls ord).take (i + 1) = nls (ord.take (i + 1)) := by simp [nls, List.map_take]
    rw [et]
    refine walkD_lst gupd_same fun l hl' => ?_
    have hls := gupd_none hl'
    refine lcD_map1 (fun k : Nat => encQ (rv row k)) hl' (by rw [List.length_take, sizeLine_eq]; omega) (fun acc G2 L2 => L2 _ _ (by rw [gupd_ne hls.1.symm]; exact gupd_same)) (fun k hk => ⟨_, rfl, fun acc G2 N L2 hN => ?_⟩) (fun G2 L2 => ?_)
    · have hkr : k < row.length := by simpa using hp.mem_iff.mp (List.mem_of_mem_take hk)
      have L3 : Less G G2 := (((hL.trans L).new hs).new hl').trans L2
      simp only [dSeq, dNext, dRet, dRetN, dIfS, dDrop, dAsg, gdName, gdTup, gdNil, gdCons, dPar, dVar, dC, dOp, dCB, dCall, dCons, dNil, dTup, dLst, dB, dNot, dTru, dAnd, dOr, dAndV, dOrV, dNotV, dIf, dChain, dNeg, startD, List.map, List.length, List.replicate, List.append, List.cons_append, List.nil_append, List.append_nil, List.getElem?_cons_zero, List.getElem?_cons_succ, List.set_cons_zero, List.set_cons_succ, List.set_nil, Nat.sub_self, Nat.add_one_sub_one, Nat.reduceAdd, Nat.reduceSub, List.replicate_zero, List.replicate_succ, ixD_tup0, ixD_tup1, ixD_enc0, ixD_enc1, two_le_size, true_and, subD, modD, divD, powD, ltD, leD, gtD, geD, dLc, dFor, dYes, dRaise, dMt, dMt0, dSl, dPart, dNoPart, dFmt, dJoined, dJs, dOrT, forD, diSeq, diRng1, diRng2, diEnum, diZip2, diZip3, dWhile, dLenSet, bindP, bindPs, wipeD, dListRng, gdStar, gdSub, List.map_cons, List.map_nil, eqD_ii, eqD_ss, eqD_bb, neD_ii, neD_ss, neD_bb, truD_bl, truD_int, truD_non, truD_str, truD_tup, truD_rol, isB_bl, walkD_tup, walkD_rol, walkD_str, lenD_str, lenD_tupE, lenD_rolE, rdI_ii, addD_ii, addD_ss, addD_tt, mulD_ii, absD_i, maxD_ii, minD_ii, divmodD_ii, strD_i, intD_s, isND_nn, zero_le_size, List.length_cons, List.length_nil]
      refine ixD_seq (ha.less L3) (d := encQ (rv row k)) (by simp [rv, hkr]) (hN _ L2)
    · have e2 : (ord.take (i + 1)).map (rv row) = (desc row).take (i + 1) := by rw [List.map_take, hdesc]
      have e3 : (ord.take (i + 1)).map (fun k : Nat => encQ (rv row k)) = ((desc row).take (i + 1)).map encQ := by rw [← e2, List.map_map]; rfl
      rw [e3] at L2
      have L3 : Less G G2 := (((hL.trans L).new hs).new hl').trans L2
      refine ⟨_, L2.at, ((hl.rok hn).desc.take _), ?_⟩
      have hS := hl.top hn (i + 1)
      rw [show ((desc row).take (i + 1)).sum = top row (i + 1) from rfl]
      generalize hT : top row (i + 1) = S at hS
      simp only [dSeq, dNext, dRet, dRetN, dIfS, dDrop, dAsg, gdName, gdTup, gdNil, gdCons, dPar, dVar, dC, dOp, dCB, dCall, dCons, dNil, dTup, dLst, dB, dNot, dTru, dAnd, dOr, dAndV, dOrV, dNotV, dIf, dChain, dNeg, startD, List.map, List.length, List.replicate, List.append, List.cons_append, List.nil_append, List.append_nil, List.getElem?_cons_zero, List.getElem?_cons_succ, List.set_cons_zero, List.set_cons_succ, List.set_nil, Nat.sub_self, Nat.add_one_sub_one, Nat.reduceAdd, Nat.reduceSub, List.replicate_zero, List.replicate_succ, ixD_tup0, ixD_tup1, ixD_enc0, ixD_enc1, two_le_size, true_and, subD, modD, divD, powD, ltD, leD, gtD, geD, dLc, dFor, dYes, dRaise, dMt, dMt0, dSl, dPart, dNoPart, dFmt, dJoined, dJs, dOrT, forD, diSeq, diRng1, diRng2, diEnum, diZip2, diZip3, dWhile, dLenSet, bindP, bindPs, wipeD, dListRng, gdStar, gdSub, List.map_cons, List.map_nil, eqD_ii, eqD_ss, eqD_bb, neD_ii, neD_ss, neD_bb, truD_bl, truD_int, truD_non, truD_str, truD_tup, truD_rol, isB_bl, walkD_tup, walkD_rol, walkD_str, lenD_str, lenD_tupE, lenD_rolE, rdI_ii, addD_ii, addD_ss, addD_tt, mulD_ii, absD_i, maxD_ii, minD_ii, divmodD_ii, strD_i, intD_s, isND_nn, zero_le_size, List.length_cons, List.length_nil, encQ]
      have hd := hS.den_pos
      refine ⟨mulOk_of (a := 150) (b := 10) (by simpa using hS.2) (by omega), lenD_seq (ha.less L3) ?_⟩
      simp only [dSeq, dNext, dRet, dRetN, dIfS, dDrop, dAsg, gdName, gdTup, gdNil, gdCons, dPar, dVar, dC, dOp, dCB, dCall, dCons, dNil, dTup, dLst, dB, dNot, dTru, dAnd, dOr, dAndV, dOrV, dNotV, dIf, dChain, dNeg, startD, List.map, List.length, List.replicate, List.append, List.cons_append, List.nil_append, List.append_nil, List.getElem?_cons_zero, List.getElem?_cons_succ, List.set_cons_zero, List.set_cons_succ, List.set_nil, Nat.sub_self, Nat.add_one_sub_one, Nat.reduceAdd, Nat.reduceSub, List.replicate_zero, List.replicate_succ, ixD_tup0, ixD_tup1, ixD_enc0, ixD_enc1, two_le_size, true_and, subD, modD, divD, powD, ltD, leD, gtD, geD, dLc, dFor, dYes, dRaise, dMt, dMt0, dSl, dPart, dNoPart, dFmt, dJoined, dJs, dOrT, forD, diSeq, diRng1, diRng2, diEnum, diZip2, diZip3, dWhile, dLenSet, bindP, bindPs, wipeD, dListRng, gdStar, gdSub, List.map_cons, List.map_nil, eqD_ii, eqD_ss, eqD_bb, neD_ii, neD_ss, neD_bb, truD_bl, truD_int, truD_non, truD_str, truD_tup, truD_rol, isB_bl, walkD_tup, walkD_rol, walkD_str, lenD_str, lenD_tupE, lenD_rolE, rdI_ii, addD_ii, addD_ss, addD_tt, mulD_ii, absD_i, maxD_ii, minD_ii, divmodD_ii, strD_i, intD_s, isND_nn, zero_le_size, List.length_cons, List.length_nil]
      rw [List.length_map]
      have hby1 : ((S.den : Int) * ((i + 1 : Nat) : Int)).natAbs < 2 ^ (150 + 10) := natAbs_mul_lt (by simpa using hS.2) (by omega)
      have hby2 : ((S.den : Int) * ((i + 1 : Nat) : Int) * ((row.length : Nat) - ((i + 1 : Nat) : Int))).natAbs < 2 ^ ((150 + 10) + 10) := natAbs_mul_lt hby1 (by omega)
      have hpos : 0 < (S.den : Int) * ((i + 1 : Nat) : Int) * ((row.length : Nat) - ((i + 1 : Nat) : Int)) := Int.mul_pos (Int.mul_pos hd (by omega)) (by omega)
      refine ⟨mulOk_of (a := 160) (b := 10) hby1 (by omega), mulOk_of (a := 10) (b := 150) (by decide) hS.1, divOk_of hpos hby2, ?_⟩
      refine hN _ _ ⟨((L.new hs).new hl').trans L2, _, _, _, _, _, _, rfl, ?_, ?_, fun k h1 h2 h3 => ?_⟩
      · split <;> omega
      · have hwb := weight_bound hpos hS.1
        have e5 : (2 : Int) * 2 ^ 150 + 1 ≤ 2 ^ 200 := by decide
        split
        · omega
        · exact hW2
      · have hWle : ∀ V : Int, W ≤ V → (2 * S.num + (S.den : Int) * ((i + 1 : Nat) : Int) * ((row.length : Nat) - ((i + 1 : Nat) : Int)) - 1) / ((S.den : Int) * ((i + 1 : Nat) : Int) * ((row.length : Nat) - ((i + 1 : Nat) : Int))) ≤ V → top row k ≤ bq V row.length k := by
          intro V hV1 hV2
          by_cases hki : k = i + 1
          · subst hki
            rw [hT]
            refine le_bq ?_
            have h1 := weight_step (a := S.num) hpos
            have h2 := Int.mul_le_mul_of_nonneg_right hV2 (Int.le_of_lt hpos)
            have h3 : V * ((S.den : Int) * ((i + 1 : Nat) : Int) * ((row.length : Nat) - ((i + 1 : Nat) : Int))) = V * ((i + 1 : Nat) : Int) * ((row.length : Nat) - ((i + 1 : Nat) : Int)) * S.den := by
              rw [Int.mul_assoc V, Int.mul_assoc V, Int.mul_assoc (S.den : Int), Int.mul_comm (S.den : Int)]
            omega
          · exact Rat.le_trans (hk k h1 (by omega) h3) (bq_mono hV1 (by omega))
        refine hWle _ ?_ ?_
        · split <;> omega
        · split <;> omega
  · rintro δ G' ⟨L, W, x3, x4, x5, x6, x7, rfl, hW1, hW2, hk⟩
    refine ⟨trivial, ?_⟩
    simp only [dSeq, dNext, dRet, dRetN, dIfS, dDrop, dAsg, gdName, gdTup, gdNil, gdCons, dPar, dVar, dC, dOp, dCB, dCall, dCons, dNil, dTup, dLst, dB, dNot, dTru, dAnd, dOr, dAndV, dOrV, dNotV, dIf, dChain, dNeg, startD, List.map, List.length, List.replicate, List.append, List.cons_append, List.nil_append, List.append_nil, List.getElem?_cons_zero, List.getElem?_cons_succ, List.set_cons_zero, List.set_cons_succ, List.set_nil, Nat.sub_self, Nat.add_one_sub_one, Nat.reduceAdd, Nat.reduceSub, List.replicate_zero, List.replicate_succ, ixD_tup0, ixD_tup1, ixD_enc0, ixD_enc1, two_le_size, true_and, subD, modD, divD, powD, ltD, leD, gtD, geD, dLc, dFor, dYes, dRaise, dMt, dMt0, dSl, dPart, dNoPart, dFmt, dJoined, dJs, dOrT, forD, diSeq, diRng1, diRng2, diEnum, diZip2, diZip3, dWhile, dLenSet, bindP, bindPs, wipeD, dListRng, gdStar, gdSub, List.map_cons, List.map_nil, eqD_ii, eqD_ss, eqD_bb, neD_ii, neD_ss, neD_bb, truD_bl, truD_int, truD_non, truD_str, truD_tup, truD_rol, isB_bl, walkD_tup, walkD_rol, walkD_str, lenD_str, lenD_tupE, lenD_rolE, rdI_ii, addD_ii, addD_ss, addD_tt, mulD_ii, absD_i, maxD_ii, minD_ii, divmodD_ii, strD_i, intD_s, isND_nn, zero_le_size, List.length_cons, List.length_nil]
    refine Fo.mk (hL.trans L) (hQ W hW1 hW2 fun k h1 h2 => hk k h1 ?_ h2)
    rw [rangeD_length]; omega

end
end Q
set_option maxHeartbeats 4000000
namespace Q
open PySem PySem.Spec PyProof.Rows L2

section
variable {P : Program} {w : World} {K : PySem.W.Frag} {mg : Str → Option Value} {base : Heap}
def sp__law_moment : DSp := sp2 fun a b G Q _ => ∃ (p : Addr) (u : Nat), a = .ref p ∧ b = .int u ∧ Pot G p ∧ u ≤ 20 ∧ ∀ W seats G2, LMom W seats u → Pl p G G2 → Q (encM W seats) G2
abbrev s__law_moment : Stmt := topS 56
abbrev N__law_moment : List Str := ["pot", "upto", "names", "row", "empty", "one", "weight", "seats", "name", "gone"]
theorem sc__law_moment : FnScope N__law_moment ["pot", "upto"] (defScope s__law_moment) := ⟨rfl, rfl, rfl, by decide +kernel, rfl, by decide +kernel, by decide +kernel⟩
theorem ok__law_moment (F : FunH K mg "_law_moment" s__law_moment) (T : Tx K mg) (h__law_digit : Has P w K mg base 1 "_law_digit" 2 [] sp__law_digit) (h__law_names : Has P w K mg base 3 "_law_names" 2 [] sp__law_names) (h__law_row : Has P w K mg base 4 "_law_row" 2 [] sp__law_row) (h__law_weight : Has P w K mg base 4 "_law_weight" 1 [] sp__law_weight) : Has P w K mg base 5 "_law_moment" 2 [] sp__law_moment := by
  refine Has.ofF F sc__law_moment (fun _ _ _ _ _ _ us hl => match us, hl with | [_, _], _ => rfl) len2 fun f cdv A outer s H E ds G Q Ed B hp h => ⟨_, (s_cons (s_set 2 sc__law_moment.nd (d_call h__law_names B (a_cons (d_var 0) (a_cons (d_var 1) a_nil))))
 (s_cons (s_set 3 sc__law_moment.nd (d_call h__law_row B (a_cons (d_var 0) (a_cons (d_call h__law_digit B (a_cons (d_var 0) (a_cons (d_op o_add (d_var 1) d_int) a_nil))) a_nil))))
 (s_cons (s_setLc 4 (own := [("one", 5)]) (p := .nm 5) B.hc sc__law_moment.nd (blkOk_by (own := [("one", 5)]) (N := N__law_moment) (by kernel_rfl)) (by decide) (sw_true rfl rfl rfl (by decide +kernel)) (i_seq (d_var 3)) (fun s2 H2 C2 cl2 fp2 => (p_name (i := 5) sc__law_moment.nd)) (fun s2 H2 C2 cl2 fp2 => ts_nil) (fun s2 H2 C2 cl2 fp2 => (d_cmp (o_eq (B.blk s2 H2 _ _ fp2).hu) (d_call h__law_digit (B.blk s2 H2 _ _ fp2) (a_cons (d_var 0) (a_cons (d_ix (d_lst (a_cons d_int (a_cons d_int a_nil))) (d_op o_div (d_call h__law_digit (B.blk s2 H2 _ _ fp2) (a_cons (d_var 0) (a_cons d_int a_nil))) d_int)) a_nil))) d_int)))
 (s_cons (s_set 6 sc__law_moment.nd (d_op o_add (d_call h__law_weight B (a_cons (d_var 3) a_nil)) (d_ix (d_lst (a_cons d_int (a_cons d_int (a_cons d_int (a_cons (d_call h__law_digit B (a_cons (d_var 0) (a_cons (d_op o_pow d_int d_int) a_nil))) a_nil))))) (d_call h__law_digit B (a_cons (d_var 0) (a_cons d_int a_nil))))))
 (s_cons (s_setLc 7 (own := [("name", 8), ("gone", 9), ("one", 5)]) (p := .tp [.nm 8, .nm 9, .nm 5]) B.hc sc__law_moment.nd (blkOk_by (own := [("name", 8), ("gone", 9), ("one", 5)]) (N := N__law_moment) (by kernel_rfl)) (by decide) (sw_true rfl rfl rfl (by decide +kernel)) (i_zip3 T.b.zip (a_cons (d_var 2) (a_cons (d_var 4) (a_cons (d_var 3) a_nil)))) (fun s1 H1 C1 cl1 fp1 => (p_tup (B.blk s1 H1 _ _ fp1).hc (ps_cons' (p_name (i := 8) sc__law_moment.nd) (ps_cons' (p_name (i := 9) sc__law_moment.nd) (ps_cons' (p_name (i := 5) sc__law_moment.nd) ps_nil'))))) (fun s1 H1 C1 cl1 fp1 => ts_nil) (fun s1 H1 C1 cl1 fp1 => (d_tup (a_cons (d_ifExp (d_ttru (d_var 9)) d_str (d_var 8)) (a_cons (d_var 5) a_nil)))))
 (s_one (s_ret (d_tup (a_cons (d_var 6) (a_cons (d_callTy c_tuple T.b.tuple boot_tuple (a_cons (d_var 7) a_nil)) a_nil)))))))))), ?_⟩

  obtain ⟨a, b, rfl, p, u, rfl, rfl, hp, hu, hQ⟩ := sp2_ex h
  have e29 : (10 : Int) ^ (29 : Int).toNat = 100000000000000000000000000000 := by decide
  have c1 : CPow 10 29 := ⟨by decide, by decide, by decide⟩
  simp only [dSeq, dNext, dRet, dRetN, dIfS, dDrop, dAsg, gdName, gdTup, gdNil, gdCons, dPar, dVar, dC, dOp, dCB, dCall, dCons, dNil, dTup, dLst, dB, dNot, dTru, dAnd, dOr, dAndV, dOrV, dNotV, dIf, dChain, dNeg, startD, List.map, List.length, List.replicate, List.append, List.cons_append, List.nil_append, List.append_nil, List.getElem?_cons_zero, List.getElem?_cons_succ, List.set_cons_zero, List.set_cons_succ, List.set_nil, Nat.sub_self, Nat.add_one_sub_one, Nat.reduceAdd, Nat.reduceSub, List.replicate_zero, List.replicate_succ, ixD_tup0, ixD_tup1, ixD_enc0, ixD_enc1, two_le_size, true_and, subD, modD, divD, powD, ltD, leD, gtD, geD, dLc, dFor, dYes, dRaise, dMt, dMt0, dSl, dPart, dNoPart, dFmt, dJoined, dJs, dOrT, forD, diSeq, diRng1, diRng2, diEnum, diZip2, diZip3, dWhile, dLenSet, bindP, bindPs, wipeD, dListRng, gdStar, gdSub, List.map_cons, List.map_nil, eqD_ii, eqD_ss, eqD_bb, neD_ii, neD_ss, neD_bb, truD_bl, truD_int, truD_non, truD_str, truD_tup, truD_rol, isB_bl, walkD_tup, walkD_rol, walkD_str, lenD_str, lenD_tupE, lenD_rolE, rdI_ii, addD_ii, addD_ss, addD_tt, mulD_ii, absD_i, maxD_ii, minD_ii, divmodD_ii, strD_i, intD_s, isND_nn, zero_le_size, List.length_cons, List.length_nil, sp__law_names, sp__law_digit, sp__law_row, sp2, sp__law_weight, sp1, e29]
  refine ⟨p, u, rfl, rfl, hp, hu, fun ns G1 n hnl hnok hnd L1 hn0 hn1 => ?_⟩
  have hnp : n ≠ p := hp.ne hn0
  refine ⟨p, _, rfl, rfl, L1.pot, by omega, Int.lt_of_lt_of_le (show ((u : Nat) : Int) + 1 < 100 by omega) (by decide), fun m G2 hm0 hm1 L2 => ?_⟩
  obtain ⟨m, rfl⟩ := Int.eq_ofNat_of_zero_le hm0
  refine ⟨p, m, rfl, rfl, L2.pot, by omega, fun row r G3 hrl hrow hsum L3 hr0 hr1 => ?_⟩
  have hrp : r ≠ p := L2.ne hr0
  have L13 := (L1.trans L2).trans L3
  have hn3 : G3 n = some (.lst (txs ns)) := L3.old n _ hnp (L2.old n _ hnp hn1)
  refine walkD_lst hr1 fun q hq => ?_
  have hqp := L13.ne hq
  have hqr : r ≠ q := ne_g hr1 hq
  refine lcD_inv (fun i acc G' => Pl p G3 G' ∧ G' q = some (.lst acc) ∧ ∃ gs : List Bool, acc = gs.map D.bl ∧ gs.length = i) ⟨(Pl.refl L3.pot).new hq, gupd_same, [], rfl, rfl⟩ (by rw [List.length_map, sizeLine_eq]; omega) ?_ ?_
  · rintro i d acc G' hd hai ⟨L, ha, gs, rfl, hgi⟩
    refine ⟨L.old r _ hrp hr1, _, rfl, fun N M hN _ => ?_⟩
    simp only [dSeq, dNext, dRet, dRetN, dIfS, dDrop, dAsg, gdName, gdTup, gdNil, gdCons, dPar, dVar, dC, dOp, dCB, dCall, dCons, dNil, dTup, dLst, dB, dNot, dTru, dAnd, dOr, dAndV, dOrV, dNotV, dIf, dChain, dNeg, startD, List.map, List.length, List.replicate, List.append, List.cons_append, List.nil_append, List.append_nil, List.getElem?_cons_zero, List.getElem?_cons_succ, List.set_cons_zero, List.set_cons_succ, List.set_nil, Nat.sub_self, Nat.add_one_sub_one, Nat.reduceAdd, Nat.reduceSub, List.replicate_zero, List.replicate_succ, ixD_tup0, ixD_tup1, ixD_enc0, ixD_enc1, two_le_size, true_and, subD, modD, divD, powD, ltD, leD, gtD, geD, dLc, dFor, dYes, dRaise, dMt, dMt0, dSl, dPart, dNoPart, dFmt, dJoined, dJs, dOrT, forD, diSeq, diRng1, diRng2, diEnum, diZip2, diZip3, dWhile, dLenSet, bindP, bindPs, wipeD, dListRng, gdStar, gdSub, List.map_cons, List.map_nil, eqD_ii, eqD_ss, eqD_bb, neD_ii, neD_ss, neD_bb, truD_bl, truD_int, truD_non, truD_str, truD_tup, truD_rol, isB_bl, walkD_tup, walkD_rol, walkD_str, lenD_str, lenD_tupE, lenD_rolE, rdI_ii, addD_ii, addD_ss, addD_tt, mulD_ii, absD_i, maxD_ii, minD_ii, divmodD_ii, strD_i, intD_s, isND_nn, zero_le_size, List.length_cons, List.length_nil, sp__law_digit, sp2]
    refine fun t ht => ⟨p, _, rfl, rfl, (L.new ht).pot, by decide, by decide, fun d G5 h0 h4 L5 => ?_⟩
    try simp only [dSeq, dNext, dRet, dRetN, dIfS, dDrop, dAsg, gdName, gdTup, gdNil, gdCons, dPar, dVar, dC, dOp, dCB, dCall, dCons, dNil, dTup, dLst, dB, dNot, dTru, dAnd, dOr, dAndV, dOrV, dNotV, dIf, dChain, dNeg, startD, List.map, List.length, List.replicate, List.append, List.cons_append, List.nil_append, List.append_nil, List.getElem?_cons_zero, List.getElem?_cons_succ, List.set_cons_zero, List.set_cons_succ, List.set_nil, Nat.sub_self, Nat.add_one_sub_one, Nat.reduceAdd, Nat.reduceSub, List.replicate_zero, List.replicate_succ, ixD_tup0, ixD_tup1, ixD_enc0, ixD_enc1, two_le_size, true_and, subD, modD, divD, powD, ltD, leD, gtD, geD, dLc, dFor, dYes, dRaise, dMt, dMt0, dSl, dPart, dNoPart, dFmt, dJoined, dJs, dOrT, forD, diSeq, diRng1, diRng2, diEnum, diZip2, diZip3, dWhile, dLenSet, bindP, bindPs, wipeD, dListRng, gdStar, gdSub, List.map_cons, List.map_nil, eqD_ii, eqD_ss, eqD_bb, neD_ii, neD_ss, neD_bb, truD_bl, truD_int, truD_non, truD_str, truD_tup, truD_rol, isB_bl, walkD_tup, walkD_rol, walkD_str, lenD_str, lenD_tupE, lenD_rolE, rdI_ii, addD_ii, addD_ss, addD_tt, mulD_ii, absD_i, maxD_ii, minD_ii, divmodD_ii, strD_i, intD_s, isND_nn, zero_le_size, List.length_cons, List.length_nil]
    have htp := L.ne ht
    refine ⟨divOk_of (b := 10) (by decide) (by decide), ixD_pick (L5.old t _ htp gupd_same) (by omega) (by simp; omega) fun x hx => ?_⟩
    obtain ⟨j, rfl, hj0, hj9⟩ : ∃ j : Int, x = .int j ∧ 0 < j ∧ j < 9 := by
      simp at hx
      rcases hx with rfl | rfl <;> exact ⟨_, rfl, by decide, by decide⟩
    refine ⟨p, _, rfl, rfl, L5.pot, hj0, Int.lt_of_lt_of_le hj9 (by decide), fun d2 G6 h20 h2j L6 => ?_⟩
    try simp only [dSeq, dNext, dRet, dRetN, dIfS, dDrop, dAsg, gdName, gdTup, gdNil, gdCons, dPar, dVar, dC, dOp, dCB, dCall, dCons, dNil, dTup, dLst, dB, dNot, dTru, dAnd, dOr, dAndV, dOrV, dNotV, dIf, dChain, dNeg, startD, List.map, List.length, List.replicate, List.append, List.cons_append, List.nil_append, List.append_nil, List.getElem?_cons_zero, List.getElem?_cons_succ, List.set_cons_zero, List.set_cons_succ, List.set_nil, Nat.sub_self, Nat.add_one_sub_one, Nat.reduceAdd, Nat.reduceSub, List.replicate_zero, List.replicate_succ, ixD_tup0, ixD_tup1, ixD_enc0, ixD_enc1, two_le_size, true_and, subD, modD, divD, powD, ltD, leD, gtD, geD, dLc, dFor, dYes, dRaise, dMt, dMt0, dSl, dPart, dNoPart, dFmt, dJoined, dJs, dOrT, forD, diSeq, diRng1, diRng2, diEnum, diZip2, diZip3, dWhile, dLenSet, bindP, bindPs, wipeD, dListRng, gdStar, gdSub, List.map_cons, List.map_nil, eqD_ii, eqD_ss, eqD_bb, neD_ii, neD_ss, neD_bb, truD_bl, truD_int, truD_non, truD_str, truD_tup, truD_rol, isB_bl, walkD_tup, walkD_rol, walkD_str, lenD_str, lenD_tupE, lenD_rolE, rdI_ii, addD_ii, addD_ss, addD_tt, mulD_ii, absD_i, maxD_ii, minD_ii, divmodD_ii, strD_i, intD_s, isND_nn, zero_le_size, List.length_cons, List.length_nil]
    have hq6 : G6 q = some (.lst (gs.map D.bl)) := L6.old q _ hqp (L5.old q _ hqp (gupd_some ha ht))
    exact hN _ _ hq6 ⟨(((L.new ht).trans L5).trans L6).put hq hqp, gupd_same, gs ++ [decide (d2 = 0)], by simp, by simp [hgi]⟩
  · rintro acc G4 ⟨L4, hq4, gs, rfl, hgl⟩
    rw [List.length_map] at hgl
    have hr4 : G4 r = some (.lst (row.map encQ)) := L4.old r _ hrp hr1
    have hn4 : G4 n = some (.lst (txs ns)) := L4.old n _ hnp hn3
    refine ⟨hr4, ?_⟩
    refine ⟨row, hr4, hrow, by omega, fun W hW1 hW2 hWk => ?_⟩
    try simp only [dSeq, dNext, dRet, dRetN, dIfS, dDrop, dAsg, gdName, gdTup, gdNil, gdCons, dPar, dVar, dC, dOp, dCB, dCall, dCons, dNil, dTup, dLst, dB, dNot, dTru, dAnd, dOr, dAndV, dOrV, dNotV, dIf, dChain, dNeg, startD, List.map, List.length, List.replicate, List.append, List.cons_append, List.nil_append, List.append_nil, List.getElem?_cons_zero, List.getElem?_cons_succ, List.set_cons_zero, List.set_cons_succ, List.set_nil, Nat.sub_self, Nat.add_one_sub_one, Nat.reduceAdd, Nat.reduceSub, List.replicate_zero, List.replicate_succ, ixD_tup0, ixD_tup1, ixD_enc0, ixD_enc1, two_le_size, true_and, subD, modD, divD, powD, ltD, leD, gtD, geD, dLc, dFor, dYes, dRaise, dMt, dMt0, dSl, dPart, dNoPart, dFmt, dJoined, dJs, dOrT, forD, diSeq, diRng1, diRng2, diEnum, diZip2, diZip3, dWhile, dLenSet, bindP, bindPs, wipeD, dListRng, gdStar, gdSub, List.map_cons, List.map_nil, eqD_ii, eqD_ss, eqD_bb, neD_ii, neD_ss, neD_bb, truD_bl, truD_int, truD_non, truD_str, truD_tup, truD_rol, isB_bl, walkD_tup, walkD_rol, walkD_str, lenD_str, lenD_tupE, lenD_rolE, rdI_ii, addD_ii, addD_ss, addD_tt, mulD_ii, absD_i, maxD_ii, minD_ii, divmodD_ii, strD_i, intD_s, isND_nn, zero_le_size, List.length_cons, List.length_nil]
    refine ⟨c1, p, _, rfl, rfl, L4.pot, by decide, by decide, fun w4 G5 a0 a1 L5 => ?_⟩
    try simp only [dSeq, dNext, dRet, dRetN, dIfS, dDrop, dAsg, gdName, gdTup, gdNil, gdCons, dPar, dVar, dC, dOp, dCB, dCall, dCons, dNil, dTup, dLst, dB, dNot, dTru, dAnd, dOr, dAndV, dOrV, dNotV, dIf, dChain, dNeg, startD, List.map, List.length, List.replicate, List.append, List.cons_append, List.nil_append, List.append_nil, List.getElem?_cons_zero, List.getElem?_cons_succ, List.set_cons_zero, List.set_cons_succ, List.set_nil, Nat.sub_self, Nat.add_one_sub_one, Nat.reduceAdd, Nat.reduceSub, List.replicate_zero, List.replicate_succ, ixD_tup0, ixD_tup1, ixD_enc0, ixD_enc1, two_le_size, true_and, subD, modD, divD, powD, ltD, leD, gtD, geD, dLc, dFor, dYes, dRaise, dMt, dMt0, dSl, dPart, dNoPart, dFmt, dJoined, dJs, dOrT, forD, diSeq, diRng1, diRng2, diEnum, diZip2, diZip3, dWhile, dLenSet, bindP, bindPs, wipeD, dListRng, gdStar, gdSub, List.map_cons, List.map_nil, eqD_ii, eqD_ss, eqD_bb, neD_ii, neD_ss, neD_bb, truD_bl, truD_int, truD_non, truD_str, truD_tup, truD_rol, isB_bl, walkD_tup, walkD_rol, walkD_str, lenD_str, lenD_tupE, lenD_rolE, rdI_ii, addD_ii, addD_ss, addD_tt, mulD_ii, absD_i, maxD_ii, minD_ii, divmodD_ii, strD_i, intD_s, isND_nn, zero_le_size, List.length_cons, List.length_nil]
    refine ⟨by rw [sizeLine_eq]; decide, fun t ht => ?_⟩
    have htp := L5.ne ht
    refine ⟨p, _, rfl, rfl, (L5.new ht).pot, by decide, by decide, fun d G6 b0 b1 L6 => ?_⟩
    refine ixD_pick (L6.old t _ htp gupd_same) b0 (by simpa using b1) fun x hx => ?_
    obtain ⟨j, rfl, hj0, hj9⟩ : ∃ j : Int, x = .int j ∧ 0 ≤ j ∧ j < 2 ^ 100 := by
      simp at hx
      rcases hx with rfl | rfl | rfl
      · exact ⟨0, rfl, by decide, by decide⟩
      · exact ⟨1, rfl, by decide, by decide⟩
      · exact ⟨w4, rfl, a0, Int.lt_of_lt_of_le a1 (by decide)⟩
    try simp only [dSeq, dNext, dRet, dRetN, dIfS, dDrop, dAsg, gdName, gdTup, gdNil, gdCons, dPar, dVar, dC, dOp, dCB, dCall, dCons, dNil, dTup, dLst, dB, dNot, dTru, dAnd, dOr, dAndV, dOrV, dNotV, dIf, dChain, dNeg, startD, List.map, List.length, List.replicate, List.append, List.cons_append, List.nil_append, List.append_nil, List.getElem?_cons_zero, List.getElem?_cons_succ, List.set_cons_zero, List.set_cons_succ, List.set_nil, Nat.sub_self, Nat.add_one_sub_one, Nat.reduceAdd, Nat.reduceSub, List.replicate_zero, List.replicate_succ, ixD_tup0, ixD_tup1, ixD_enc0, ixD_enc1, two_le_size, true_and, subD, modD, divD, powD, ltD, leD, gtD, geD, dLc, dFor, dYes, dRaise, dMt, dMt0, dSl, dPart, dNoPart, dFmt, dJoined, dJs, dOrT, forD, diSeq, diRng1, diRng2, diEnum, diZip2, diZip3, dWhile, dLenSet, bindP, bindPs, wipeD, dListRng, gdStar, gdSub, List.map_cons, List.map_nil, eqD_ii, eqD_ss, eqD_bb, neD_ii, neD_ss, neD_bb, truD_bl, truD_int, truD_non, truD_str, truD_tup, truD_rol, isB_bl, walkD_tup, walkD_rol, walkD_str, lenD_str, lenD_tupE, lenD_rolE, rdI_ii, addD_ii, addD_ss, addD_tt, mulD_ii, absD_i, maxD_ii, minD_ii, divmodD_ii, strD_i, intD_s, isND_nn, zero_le_size, List.length_cons, List.length_nil]
    have L46 := (L5.new ht).trans L6
    have hr6 : G6 r = some (.lst (row.map encQ)) := L6.old r _ hrp (gupd_some (L5.old r _ hrp hr4) ht)
    have hn6 : G6 n = some (.lst (txs ns)) := L6.old n _ hnp (gupd_some (L5.old n _ hnp hn4) ht)
    have hq6 : G6 q = some (.lst (gs.map D.bl)) := L6.old q _ hqp (gupd_some (L5.old q _ hqp hq4) ht)
    refine ⟨_, _, _, hn6, hq6, hr6, fun l hl => ?_⟩
    rw [zipD3_eq]
    refine lcD_map1 (fun z => encS (seat3 z)) hl (by rw [List.length_zip, List.length_zip, sizeLine_eq]; omega)
      (fun acc G7 L7 => ⟨L7 _ _ (gupd_some hn6 hl), L7 _ _ (gupd_some hq6 hl), L7 _ _ (gupd_some hr6 hl)⟩) (fun z hz => ⟨_, rfl, fun acc G7 N L7 hN => ?_⟩) (fun G7 L7 => ?_)
    · simp only [dSeq, dNext, dRet, dRetN, dIfS, dDrop, dAsg, gdName, gdTup, gdNil, gdCons, dPar, dVar, dC, dOp, dCB, dCall, dCons, dNil, dTup, dLst, dB, dNot, dTru, dAnd, dOr, dAndV, dOrV, dNotV, dIf, dChain, dNeg, startD, List.map, List.length, List.replicate, List.append, List.cons_append, List.nil_append, List.append_nil, List.getElem?_cons_zero, List.getElem?_cons_succ, List.set_cons_zero, List.set_cons_succ, List.set_nil, Nat.sub_self, Nat.add_one_sub_one, Nat.reduceAdd, Nat.reduceSub, List.replicate_zero, List.replicate_succ, ixD_tup0, ixD_tup1, ixD_enc0, ixD_enc1, two_le_size, true_and, subD, modD, divD, powD, ltD, leD, gtD, geD, dLc, dFor, dYes, dRaise, dMt, dMt0, dSl, dPart, dNoPart, dFmt, dJoined, dJs, dOrT, forD, diSeq, diRng1, diRng2, diEnum, diZip2, diZip3, dWhile, dLenSet, bindP, bindPs, wipeD, dListRng, gdStar, gdSub, List.map_cons, List.map_nil, eqD_ii, eqD_ss, eqD_bb, neD_ii, neD_ss, neD_bb, truD_bl, truD_int, truD_non, truD_str, truD_tup, truD_rol, isB_bl, walkD_tup, walkD_rol, walkD_str, lenD_str, lenD_tupE, lenD_rolE, rdI_ii, addD_ii, addD_ss, addD_tt, mulD_ii, absD_i, maxD_ii, minD_ii, divmodD_ii, strD_i, intD_s, isND_nn, zero_le_size, List.length_cons, List.length_nil, lit_empty]
      have := hN _ L7
      cases hg : z.2.1 with
      | true => simp [encS, seat3, hg] at this ⊢; exact this
      | false => simp [encS, seat3, hg] at this ⊢; exact this
    · refine tupleD_lst L7.at ?_
      have Lall : Pl p G G7 := ((L13.trans L4).trans L46).less (.trans (.new (.refl _) hl) L7)
      have hrow2 : owL ((ns.zip (gs.zip row)).map seat3) = row := seats_row hgl (by omega)
      refine fo0 ?_
      have hm := hQ (W + j) ((ns.zip (gs.zip row)).map seat3) G7 ⟨⟨by omega, fun s hs => (seats_ok hnok s hs).1, (seats_names ns gs row).nodup hnd, ?_⟩, by rw [hrow2]; exact hrow, ?_, ?_⟩ Lall
      · simpa [encM, Function.comp_def] using hm
      · rw [hrow2]
        exact fits_of hsum fun k h1 h2 => Rat.le_trans (hWk k h1 h2) (bq_mono (by omega) (by omega))
      · simp; omega
      · have e1 : (2 : Int) ^ 200 + 2 ^ 100 ≤ 2 ^ 300 := by decide
        omega

end
end Q
set_option maxHeartbeats 4000000
namespace Q
open PySem PySem.Spec PyProof.Rows L2

section
variable {P : Program} {w : World} {K : PySem.W.Frag} {mg : Str → Option Value} {base : Heap}
def sp__law_part_text : DSp := sp1 fun a G Q _ => ∃ q : Rat, a = encQ q ∧ SmK 1900 q ∧ Q (.str (tx (ptL q))) G
abbrev s__law_part_text : Stmt := topS 57
abbrev N__law_part_text : List Str := ["one"]
theorem sc__law_part_text : FnScope N__law_part_text ["one"] (defScope s__law_part_text) := ⟨rfl, rfl, rfl, by decide +kernel, rfl, by decide +kernel, by decide +kernel⟩
theorem ok__law_part_text (F : FunH K mg "_law_part_text" s__law_part_text) (T : Tx K mg)  : Has P w K mg base 1 "_law_part_text" 1 [] sp__law_part_text := by
  refine Has.ofF F sc__law_part_text (fun _ _ _ _ _ _ us hl => match us, hl with | [_], _ => rfl) len1 fun f cdv A outer s H E ds G Q Ed B hp h => ⟨_, (s_one (s_ret (d_op o_add (d_callTy c_str T.b.str boot_str (a_cons (d_ix (d_var 0) d_int) a_nil)) (d_ifExp (d_tcmp (o_eq B.hu) (d_ix (d_var 0) d_int) d_int) d_str (d_op o_add d_str (d_callTy c_str T.b.str boot_str (a_cons (d_ix (d_var 0) d_int) a_nil))))))), ?_⟩

  obtain ⟨a, rfl, q, rfl, hq, hQ⟩ := sp1_ex h
  have h1 : q.num.natAbs.log2 < 1920 := log_of hq.1 (by decide) (by decide)
  have h2 : (q.den : Int).natAbs.log2 < 1920 := log_of (k := 1900) (by simpa using hq.2) (by decide) (by decide)
  have hl := ptL_len (q := q) (k := 640) (by decide) (hq.mono (by decide))
  have hn := numZ_len (i := q.num) (k := 640) (by decide) (Nat.lt_of_lt_of_le hq.1 (Nat.pow_le_pow_right (by decide) (by decide)))
  have hd' := numL_len4 (n := q.den) (k := 640) (by decide) (Nat.lt_of_lt_of_le hq.2 (Nat.pow_le_pow_right (by decide) (by decide)))
  simp only [dSeq, dNext, dRet, dRetN, dIfS, dDrop, dAsg, gdName, gdTup, gdNil, gdCons, dPar, dVar, dC, dOp, dCB, dCall, dCons, dNil, dTup, dLst, dB, dNot, dTru, dAnd, dOr, dAndV, dOrV, dNotV, dIf, dChain, dNeg, startD, List.map, List.length, List.replicate, List.append, List.cons_append, List.nil_append, List.append_nil, List.getElem?_cons_zero, List.getElem?_cons_succ, List.set_cons_zero, List.set_cons_succ, List.set_nil, Nat.sub_self, Nat.add_one_sub_one, Nat.reduceAdd, Nat.reduceSub, List.replicate_zero, List.replicate_succ, ixD_tup0, ixD_tup1, ixD_enc0, ixD_enc1, two_le_size, true_and, subD, modD, divD, powD, ltD, leD, gtD, geD, dLc, dFor, dYes, dRaise, dMt, dMt0, dSl, dPart, dNoPart, dFmt, dJoined, dJs, dOrT, forD, diSeq, diRng1, diRng2, diEnum, diZip2, diZip3, dWhile, dLenSet, bindP, bindPs, wipeD, dListRng, gdStar, gdSub, List.map_cons, List.map_nil, eqD_ii, eqD_ss, eqD_bb, neD_ii, neD_ss, neD_bb, truD_bl, truD_int, truD_non, truD_str, truD_tup, truD_rol, isB_bl, walkD_tup, walkD_rol, walkD_str, lenD_str, lenD_tupE, lenD_rolE, rdI_ii, addD_ii, addD_ss, addD_tt, mulD_ii, absD_i, maxD_ii, minD_ii, divmodD_ii, strD_i, intD_s, isND_nn, zero_le_size, List.length_cons, List.length_nil, lit_stroke, lit_empty, tx_int, tx_length, tx_app]
  refine ⟨h1, ?_⟩
  by_cases hd : q.den = 1
  · simp only [hd, Int.natCast_one, decide_true, if_true, addD_ss]
    have e : ptL q = numZ q.num := by unfold ptL; rw [if_pos hd, List.append_nil]
    rw [e] at hQ
    exact ⟨by simp [sizeLine_eq]; omega, fo0 hQ⟩
  · have hd1 : ¬ ((q.den : Int) = 1) := by omega
    simp only [hd1, decide_false, if_false, Bool.false_eq_true]
    have e3 : numZ (q.den : Int) = TL.numL q.den := by unfold numZ; rw [if_neg (by omega)]; rfl
    rw [e3]
    have e : ptL q = numZ q.num ++ 47 :: TL.numL q.den := by unfold ptL; rw [if_neg hd]
    rw [e] at hQ
    refine ⟨h2, by simp [sizeLine_eq]; omega, ?_⟩
    exact ⟨by simp [sizeLine_eq]; omega, fo0 (by simpa using hQ)⟩

def sp__law_text : DSp := sp1 fun a G Q _ => ∃ W seats, a = encM W seats ∧ TxOk W seats ∧ Q (.str (tx (momL W seats))) G
abbrev s__law_text : Stmt := topS 58
abbrev N__law_text : List Str := ["moment", "rows", "person", "owed"]
theorem sc__law_text : FnScope N__law_text ["moment"] (defScope s__law_text) := ⟨rfl, rfl, rfl, by decide +kernel, rfl, by decide +kernel, by decide +kernel⟩
theorem ok__law_text (F : FunH K mg "_law_text" s__law_text) (T : Tx K mg) (h__law_part_text : Has P w K mg base 1 "_law_part_text" 1 [] sp__law_part_text) : Has P w K mg base 2 "_law_text" 1 [] sp__law_text := by
  refine Has.ofF F sc__law_text (fun _ _ _ _ _ _ us hl => match us, hl with | [_], _ => rfl) len1 fun f cdv A outer s H E ds G Q Ed B hp h => ⟨_, (s_cons (s_set 1 sc__law_text.nd (d_lst (a_cons (d_op o_add d_str (d_callTy c_str T.b.str boot_str (a_cons (d_ix (d_var 0) d_int) a_nil))) a_nil)))
 (s_cons (s_for hp B.hc (i_seq (d_ix (d_var 0) d_int)) (g_tup (n := 2) B.hc (gs_cons (g_name (i := 2) sc__law_text.nd) (gs_cons (g_name (i := 3) sc__law_text.nd) gs_nil))) (s_one (s_expr (d_mt m_append PySem.F.plainAttrs_list PySem.F.slot_list_append PySem.F.type_list_append (d_var 1) (a_cons (d_op o_add (d_op o_add (d_op o_add d_str (d_ifExp (d_tcmp (o_eq B.hu) (d_var 2) d_str) d_str (d_var 2))) d_str) (d_call h__law_part_text B (a_cons (d_var 3) a_nil))) a_nil)))))
 (s_one (s_ret (d_op o_add (d_mt m_join PySem.F.plainAttrs_str PySem.F.slot_str_join PySem.F.type_str_join d_str (a_cons (d_var 1) a_nil)) d_str))))), ?_⟩

  obtain ⟨a, rfl, W, seats, rfl, hs, hQ⟩ := sp1_ex h
  have hw : (numZ W).length ≤ 301 := numZ_len (k := 300) (by decide) hs.w
  have hlog : W.natAbs.log2 < 1920 := log_of hs.w (by decide) (by decide)
  have hn := hs.n
  simp only [dSeq, dNext, dRet, dRetN, dIfS, dDrop, dAsg, gdName, gdTup, gdNil, gdCons, dPar, dVar, dC, dOp, dCB, dCall, dCons, dNil, dTup, dLst, dB, dNot, dTru, dAnd, dOr, dAndV, dOrV, dNotV, dIf, dChain, dNeg, startD, List.map, List.length, List.replicate, List.append, List.cons_append, List.nil_append, List.append_nil, List.getElem?_cons_zero, List.getElem?_cons_succ, List.set_cons_zero, List.set_cons_succ, List.set_nil, Nat.sub_self, Nat.add_one_sub_one, Nat.reduceAdd, Nat.reduceSub, List.replicate_zero, List.replicate_succ, ixD_tup0, ixD_tup1, ixD_enc0, ixD_enc1, two_le_size, true_and, subD, modD, divD, powD, ltD, leD, gtD, geD, dLc, dFor, dYes, dRaise, dMt, dMt0, dSl, dPart, dNoPart, dFmt, dJoined, dJs, dOrT, forD, diSeq, diRng1, diRng2, diEnum, diZip2, diZip3, dWhile, dLenSet, bindP, bindPs, wipeD, dListRng, gdStar, gdSub, List.map_cons, List.map_nil, eqD_ii, eqD_ss, eqD_bb, neD_ii, neD_ss, neD_bb, truD_bl, truD_int, truD_non, truD_str, truD_tup, truD_rol, isB_bl, walkD_tup, walkD_rol, walkD_str, lenD_str, lenD_tupE, lenD_rolE, rdI_ii, addD_ii, addD_ss, addD_tt, mulD_ii, absD_i, maxD_ii, minD_ii, divmodD_ii, strD_i, intD_s, isND_nn, zero_le_size, List.length_cons, List.length_nil, encM, lit_weight, lit_empty, lit_seatb, lit_nl, lit_blank, lit_minus, tx_int, tx_app, tx_length]
  refine ⟨hlog, by simp [sizeLine_eq]; omega, by rw [sizeLine_eq]; decide, fun p hp => ?_⟩
  have L0 : Less G (gupd G p (.lst [.str (tx (headL W))])) := .new (.refl G) hp
  refine forD_inv (fun i δ G' => Less (gupd G p (.lst ((headL W :: (seats.take i).map seatL).map fun y => .str (tx y)))) G' ∧ ∃ x2 x3, δ = [some (encM W seats), some (.ref p), x2, x3]) ⟨by simpa [headL] using Less.refl (gupd G p (.lst [.str (tx (headL W))])), none, none, rfl⟩ ?_ ?_
  · rintro i d δ G' N hd ⟨L, x2, x3, rfl⟩ hN
    obtain ⟨s, hs', rfl⟩ := map_at hd
    have hsm : s ∈ seats := List.mem_of_getElem? hs'
    have h1 := hs.s s hsm
    have h2 := ptL_len (k := 100) (by decide) h1.1
    have h3 := h1.2
    have hi : i < seats.length := (List.getElem?_eq_some_iff.mp hs').1
    have e : seatL s = [115, 101, 97, 116, 32] ++ (if s.1 = [] then [45] else s.1) ++ [32] ++ ptL s.2 := by simp [seatL]
    refine ⟨trivial, ?_⟩
    have fin : appendD (.ref p) [.str (tx (seatL s))] G' fun x G1 => N [some (encM W seats), some (.ref p), some (.str (tx s.1)), some (encQ s.2)] G1 := by
      refine ⟨_, L.at, by simp [sizeLine_eq]; omega, hN _ _ ⟨?_, _, _, rfl⟩⟩
      have := L.upd (p := p) (o := .lst ((headL W :: (seats.take (i + 1)).map seatL).map fun y => .str (tx y)))
      rw [gupd_gupd] at this
      have et : (headL W :: (seats.take i).map seatL).map (fun y => D.str (tx y)) ++ [D.str (tx (seatL s))] = (headL W :: (seats.take (i + 1)).map seatL).map fun y => D.str (tx y) := by
        rw [List.take_add_one, hs']; simp
      rw [et]
      exact this
    simp only [dSeq, dNext, dRet, dRetN, dIfS, dDrop, dAsg, gdName, gdTup, gdNil, gdCons, dPar, dVar, dC, dOp, dCB, dCall, dCons, dNil, dTup, dLst, dB, dNot, dTru, dAnd, dOr, dAndV, dOrV, dNotV, dIf, dChain, dNeg, startD, List.map, List.length, List.replicate, List.append, List.cons_append, List.nil_append, List.append_nil, List.getElem?_cons_zero, List.getElem?_cons_succ, List.set_cons_zero, List.set_cons_succ, List.set_nil, Nat.sub_self, Nat.add_one_sub_one, Nat.reduceAdd, Nat.reduceSub, List.replicate_zero, List.replicate_succ, ixD_tup0, ixD_tup1, ixD_enc0, ixD_enc1, two_le_size, true_and, subD, modD, divD, powD, ltD, leD, gtD, geD, dLc, dFor, dYes, dRaise, dMt, dMt0, dSl, dPart, dNoPart, dFmt, dJoined, dJs, dOrT, forD, diSeq, diRng1, diRng2, diEnum, diZip2, diZip3, dWhile, dLenSet, bindP, bindPs, wipeD, dListRng, gdStar, gdSub, List.map_cons, List.map_nil, eqD_ii, eqD_ss, eqD_bb, neD_ii, neD_ss, neD_bb, truD_bl, truD_int, truD_non, truD_str, truD_tup, truD_rol, isB_bl, walkD_tup, walkD_rol, walkD_str, lenD_str, lenD_tupE, lenD_rolE, rdI_ii, addD_ii, addD_ss, addD_tt, mulD_ii, absD_i, maxD_ii, minD_ii, divmodD_ii, strD_i, intD_s, isND_nn, zero_le_size, List.length_cons, List.length_nil, encS, sp__law_part_text, sp1]
    refine ⟨tyD_lst L.at, ?_⟩
    by_cases h0 : s.1 = []
    · rw [if_pos h0] at e
      simp only [h0, decide_true, if_true, addD_ss, tx_app, tx_length]
      refine ⟨by simp [sizeLine_eq], by simp [sizeLine_eq], s.2, rfl, h1.1.mono (by decide), ?_⟩
      simp only [dSeq, dNext, dRet, dRetN, dIfS, dDrop, dAsg, gdName, gdTup, gdNil, gdCons, dPar, dVar, dC, dOp, dCB, dCall, dCons, dNil, dTup, dLst, dB, dNot, dTru, dAnd, dOr, dAndV, dOrV, dNotV, dIf, dChain, dNeg, startD, List.map, List.length, List.replicate, List.append, List.cons_append, List.nil_append, List.append_nil, List.getElem?_cons_zero, List.getElem?_cons_succ, List.set_cons_zero, List.set_cons_succ, List.set_nil, Nat.sub_self, Nat.add_one_sub_one, Nat.reduceAdd, Nat.reduceSub, List.replicate_zero, List.replicate_succ, ixD_tup0, ixD_tup1, ixD_enc0, ixD_enc1, two_le_size, true_and, subD, modD, divD, powD, ltD, leD, gtD, geD, dLc, dFor, dYes, dRaise, dMt, dMt0, dSl, dPart, dNoPart, dFmt, dJoined, dJs, dOrT, forD, diSeq, diRng1, diRng2, diEnum, diZip2, diZip3, dWhile, dLenSet, bindP, bindPs, wipeD, dListRng, gdStar, gdSub, List.map_cons, List.map_nil, eqD_ii, eqD_ss, eqD_bb, neD_ii, neD_ss, neD_bb, truD_bl, truD_int, truD_non, truD_str, truD_tup, truD_rol, isB_bl, walkD_tup, walkD_rol, walkD_str, lenD_str, lenD_tupE, lenD_rolE, rdI_ii, addD_ii, addD_ss, addD_tt, mulD_ii, absD_i, maxD_ii, minD_ii, divmodD_ii, strD_i, intD_s, isND_nn, zero_le_size, List.length_cons, List.length_nil, tx_app, tx_length]
      rw [e, h0] at fin
      exact ⟨by simp [sizeLine_eq]; omega, by simpa using fin⟩
    · rw [if_neg h0] at e
      have : ¬ (tx s.1 = tx []) := fun z => h0 (tx_ne.mp z)
      simp only [this, decide_false, Bool.false_eq_true, if_false, addD_ss, tx_app, tx_length]
      refine ⟨by simp [sizeLine_eq]; omega, by simp [sizeLine_eq]; omega, s.2, rfl, h1.1.mono (by decide), ?_⟩
      simp only [dSeq, dNext, dRet, dRetN, dIfS, dDrop, dAsg, gdName, gdTup, gdNil, gdCons, dPar, dVar, dC, dOp, dCB, dCall, dCons, dNil, dTup, dLst, dB, dNot, dTru, dAnd, dOr, dAndV, dOrV, dNotV, dIf, dChain, dNeg, startD, List.map, List.length, List.replicate, List.append, List.cons_append, List.nil_append, List.append_nil, List.getElem?_cons_zero, List.getElem?_cons_succ, List.set_cons_zero, List.set_cons_succ, List.set_nil, Nat.sub_self, Nat.add_one_sub_one, Nat.reduceAdd, Nat.reduceSub, List.replicate_zero, List.replicate_succ, ixD_tup0, ixD_tup1, ixD_enc0, ixD_enc1, two_le_size, true_and, subD, modD, divD, powD, ltD, leD, gtD, geD, dLc, dFor, dYes, dRaise, dMt, dMt0, dSl, dPart, dNoPart, dFmt, dJoined, dJs, dOrT, forD, diSeq, diRng1, diRng2, diEnum, diZip2, diZip3, dWhile, dLenSet, bindP, bindPs, wipeD, dListRng, gdStar, gdSub, List.map_cons, List.map_nil, eqD_ii, eqD_ss, eqD_bb, neD_ii, neD_ss, neD_bb, truD_bl, truD_int, truD_non, truD_str, truD_tup, truD_rol, isB_bl, walkD_tup, walkD_rol, walkD_str, lenD_str, lenD_tupE, lenD_rolE, rdI_ii, addD_ii, addD_ss, addD_tt, mulD_ii, absD_i, maxD_ii, minD_ii, divmodD_ii, strD_i, intD_s, isND_nn, zero_le_size, List.length_cons, List.length_nil, tx_app, tx_length]
      rw [e] at fin
      exact ⟨by simp [sizeLine_eq]; omega, by simpa using fin⟩
  · rintro δ G' ⟨L, x2, x3, rfl⟩
    refine ⟨trivial, ?_⟩
    rw [List.length_map, List.take_of_length_le (Nat.le_refl _)] at L
    simp only [dSeq, dNext, dRet, dRetN, dIfS, dDrop, dAsg, gdName, gdTup, gdNil, gdCons, dPar, dVar, dC, dOp, dCB, dCall, dCons, dNil, dTup, dLst, dB, dNot, dTru, dAnd, dOr, dAndV, dOrV, dNotV, dIf, dChain, dNeg, startD, List.map, List.length, List.replicate, List.append, List.cons_append, List.nil_append, List.append_nil, List.getElem?_cons_zero, List.getElem?_cons_succ, List.set_cons_zero, List.set_cons_succ, List.set_nil, Nat.sub_self, Nat.add_one_sub_one, Nat.reduceAdd, Nat.reduceSub, List.replicate_zero, List.replicate_succ, ixD_tup0, ixD_tup1, ixD_enc0, ixD_enc1, two_le_size, true_and, subD, modD, divD, powD, ltD, leD, gtD, geD, dLc, dFor, dYes, dRaise, dMt, dMt0, dSl, dPart, dNoPart, dFmt, dJoined, dJs, dOrT, forD, diSeq, diRng1, diRng2, diEnum, diZip2, diZip3, dWhile, dLenSet, bindP, bindPs, wipeD, dListRng, gdStar, gdSub, List.map_cons, List.map_nil, eqD_ii, eqD_ss, eqD_bb, neD_ii, neD_ss, neD_bb, truD_bl, truD_int, truD_non, truD_str, truD_tup, truD_rol, isB_bl, walkD_tup, walkD_rol, walkD_str, lenD_str, lenD_tupE, lenD_rolE, rdI_ii, addD_ii, addD_ss, addD_tt, mulD_ii, absD_i, maxD_ii, minD_ii, divmodD_ii, strD_i, intD_s, isND_nn, zero_le_size, List.length_cons, List.length_nil]
    have hz := hs.sizes
    refine ⟨rfl, (headL W :: seats.map seatL).map tx, ?_, ?_, ?_⟩
    · show G' p = _
      rw [L.at, List.map_map]; rfl
    · have h9 := sum_le (f := fun s => (seatL s).length) (c := 400) (l := seats) fun s hs' => seatL_len (hs.s s hs').2 (hs.s s hs').1
      have h8 : (headL W).length ≤ 400 := by simp [headL]; omega
      simp [SX.S_len, Function.comp_def]
      omega
    · rw [join_tx]
      simp only [dSeq, dNext, dRet, dRetN, dIfS, dDrop, dAsg, gdName, gdTup, gdNil, gdCons, dPar, dVar, dC, dOp, dCB, dCall, dCons, dNil, dTup, dLst, dB, dNot, dTru, dAnd, dOr, dAndV, dOrV, dNotV, dIf, dChain, dNeg, startD, List.map, List.length, List.replicate, List.append, List.cons_append, List.nil_append, List.append_nil, List.getElem?_cons_zero, List.getElem?_cons_succ, List.set_cons_zero, List.set_cons_succ, List.set_nil, Nat.sub_self, Nat.add_one_sub_one, Nat.reduceAdd, Nat.reduceSub, List.replicate_zero, List.replicate_succ, ixD_tup0, ixD_tup1, ixD_enc0, ixD_enc1, two_le_size, true_and, subD, modD, divD, powD, ltD, leD, gtD, geD, dLc, dFor, dYes, dRaise, dMt, dMt0, dSl, dPart, dNoPart, dFmt, dJoined, dJs, dOrT, forD, diSeq, diRng1, diRng2, diEnum, diZip2, diZip3, dWhile, dLenSet, bindP, bindPs, wipeD, dListRng, gdStar, gdSub, List.map_cons, List.map_nil, eqD_ii, eqD_ss, eqD_bb, neD_ii, neD_ss, neD_bb, truD_bl, truD_int, truD_non, truD_str, truD_tup, truD_rol, isB_bl, walkD_tup, walkD_rol, walkD_str, lenD_str, lenD_tupE, lenD_rolE, rdI_ii, addD_ii, addD_ss, addD_tt, mulD_ii, absD_i, maxD_ii, minD_ii, divmodD_ii, strD_i, intD_s, isND_nn, zero_le_size, List.length_cons, List.length_nil, tx_app, tx_length]
      have em : TL.joinL [10] (headL W :: seats.map seatL) ++ [10] = momL W seats := by
        unfold momL
        rw [flat_join _ (by simp)]
      have hml := momL_len hs
      rw [em]
      refine ⟨?_, Fo.mk ((Less.new (.refl G) hp).trans L) hQ⟩
      have := congrArg List.length em
      simp only [List.length_append, List.length_cons, List.length_nil] at this
      simp [sizeLine_eq]
      omega

def sp__law_one : DSp := sp1 fun a G Q _ => ∃ p, a = .ref p ∧ Pot G p ∧ ∀ G2, Pl p G G2 → Q (.bl true) G2
abbrev s__law_one : Stmt := topS 59
abbrev N__law_one : List Str := ["pot", "moment", "kept", "one", "told"]
theorem sc__law_one : FnScope N__law_one ["pot"] (defScope s__law_one) := ⟨rfl, rfl, rfl, by decide +kernel, rfl, by decide +kernel, by decide +kernel⟩
theorem ok__law_one (F : FunH K mg "_law_one" s__law_one) (T : Tx K mg) (h_moment_of : Has P w K mg base 4 "moment_of" 1 [] sp_moment_of) (h_moment_text : Has P w K mg base 2 "moment_text" 1 [] sp_moment_text) (h_read_moment : Has P w K mg base 8 "read_moment" 1 [] sp_read_moment) (h__law_moment : Has P w K mg base 5 "_law_moment" 2 [] sp__law_moment) (h__law_text : Has P w K mg base 2 "_law_text" 1 [] sp__law_text) : Has P w K mg base 9 "_law_one" 1 [] sp__law_one := by
  refine Has.ofF F sc__law_one (fun _ _ _ _ _ _ us hl => match us, hl with | [_], _ => rfl) len1 fun f cdv A outer s H E ds G Q Ed B hp h => ⟨_, (s_cons (s_set 1 sc__law_one.nd (d_call h__law_moment B (a_cons (d_var 0) (a_cons d_int a_nil))))
 (s_cons (s_set 2 sc__law_one.nd (d_repr B T.b.repr (d_var 1)))
 (s_cons (s_for hp B.hc (i_seq (d_lst (a_cons (d_var 1) (a_cons (d_call h_moment_of B (a_cons (d_ix (d_var 1) d_int) a_nil)) a_nil)))) (g_name (i := 3) sc__law_one.nd) (s_cons (s_set 4 sc__law_one.nd (d_call h_moment_text B (a_cons (d_var 3) a_nil)))
 (s_cons (s_if (PWd.t (d_or (d_tnot (d_ttru (d_callB c_isi T.b.isinstance boot_isinstance (a_cons (d_var 4) (a_cons (d_ty T.b.str boot_str) a_nil))))) (d_or1 (d_tcmp (o_ne B.hu) (d_var 4) (d_call h__law_text B (a_cons (d_var 3) a_nil)))))) (s_one (s_ret d_bl)) s_nil)
 (s_one (s_if (PWd.t (d_or (d_tcmp (o_ne B.hu) (d_repr B T.b.repr (d_call h_read_moment B (a_cons (d_var 4) a_nil))) (d_repr B T.b.repr (d_var 3))) (d_or1 (d_tnot (d_ttru (d_callB c_isi T.b.isinstance boot_isinstance (a_cons (d_call h_read_moment B (a_cons (d_var 4) a_nil)) (a_cons (d_ty T.b.tuple boot_tuple) a_nil)))))))) (s_one (s_ret d_bl)) s_nil)))))
 (s_one (s_ret (d_cmp (o_eq B.hu) (d_repr B T.b.repr (d_var 1)) (d_var 2))))))), ?_⟩

  obtain ⟨a, rfl, p, rfl, hp, hQ⟩ := sp1_ex h
  simp only [dSeq, dNext, dRet, dRetN, dIfS, dDrop, dAsg, gdName, gdTup, gdNil, gdCons, dPar, dVar, dC, dOp, dCB, dCall, dCons, dNil, dTup, dLst, dB, dNot, dTru, dAnd, dOr, dAndV, dOrV, dNotV, dIf, dChain, dNeg, startD, List.map, List.length, List.replicate, List.append, List.cons_append, List.nil_append, List.append_nil, List.getElem?_cons_zero, List.getElem?_cons_succ, List.set_cons_zero, List.set_cons_succ, List.set_nil, Nat.sub_self, Nat.add_one_sub_one, Nat.reduceAdd, Nat.reduceSub, List.replicate_zero, List.replicate_succ, ixD_tup0, ixD_tup1, ixD_enc0, ixD_enc1, two_le_size, true_and, subD, modD, divD, powD, ltD, leD, gtD, geD, dLc, dFor, dYes, dRaise, dMt, dMt0, dSl, dPart, dNoPart, dFmt, dJoined, dJs, dOrT, forD, diSeq, diRng1, diRng2, diEnum, diZip2, diZip3, dWhile, dLenSet, bindP, bindPs, wipeD, dListRng, gdStar, gdSub, List.map_cons, List.map_nil, eqD_ii, eqD_ss, eqD_bb, neD_ii, neD_ss, neD_bb, truD_bl, truD_int, truD_non, truD_str, truD_tup, truD_rol, isB_bl, walkD_tup, walkD_rol, walkD_str, lenD_str, lenD_tupE, lenD_rolE, rdI_ii, addD_ii, addD_ss, addD_tt, mulD_ii, absD_i, maxD_ii, minD_ii, divmodD_ii, strD_i, intD_s, isND_nn, zero_le_size, List.length_cons, List.length_nil, sp__law_moment, sp2]
  refine ⟨p, 8, rfl, rfl, hp, by decide, fun W seats G1 hM L1 => ?_⟩
  try simp only [dSeq, dNext, dRet, dRetN, dIfS, dDrop, dAsg, gdName, gdTup, gdNil, gdCons, dPar, dVar, dC, dOp, dCB, dCall, dCons, dNil, dTup, dLst, dB, dNot, dTru, dAnd, dOr, dAndV, dOrV, dNotV, dIf, dChain, dNeg, startD, List.map, List.length, List.replicate, List.append, List.cons_append, List.nil_append, List.append_nil, List.getElem?_cons_zero, List.getElem?_cons_succ, List.set_cons_zero, List.set_cons_succ, List.set_nil, Nat.sub_self, Nat.add_one_sub_one, Nat.reduceAdd, Nat.reduceSub, List.replicate_zero, List.replicate_succ, ixD_tup0, ixD_tup1, ixD_enc0, ixD_enc1, two_le_size, true_and, subD, modD, divD, powD, ltD, leD, gtD, geD, dLc, dFor, dYes, dRaise, dMt, dMt0, dSl, dPart, dNoPart, dFmt, dJoined, dJs, dOrT, forD, diSeq, diRng1, diRng2, diEnum, diZip2, diZip3, dWhile, dLenSet, bindP, bindPs, wipeD, dListRng, gdStar, gdSub, List.map_cons, List.map_nil, eqD_ii, eqD_ss, eqD_bb, neD_ii, neD_ss, neD_bb, truD_bl, truD_int, truD_non, truD_str, truD_tup, truD_rol, isB_bl, walkD_tup, walkD_rol, walkD_str, lenD_str, lenD_tupE, lenD_rolE, rdI_ii, addD_ii, addD_ss, addD_tt, mulD_ii, absD_i, maxD_ii, minD_ii, divmodD_ii, strD_i, intD_s, isND_nn, zero_le_size, List.length_cons, List.length_nil, dRepr]
  have ht := hM.tx (by decide)
  refine reprM ht hM.good.2.1 ?_
  rw [ixM0]
  refine ⟨_, rfl, ?_⟩
  rw [if_pos (by simpa [isWtD] using hM.good.1)]
  intro q hq
  have hq1 : gupd G1 q (.lst [encM W seats, .tup [.int W, .tup []]]) q = some (.lst [encM W seats, .tup [.int W, .tup []]]) := gupd_same
  have L2 : Pl p G (gupd G1 q (.lst [encM W seats, .tup [.int W, .tup []]])) := L1.new hq
  refine walkD_lst hq1 (forD_inv (fun i δ G' => G' = gupd G1 q (.lst [encM W seats, .tup [.int W, .tup []]]) ∧ ∃ x3 x4, δ = [some (.ref p), some (encM W seats), some (.str (dataM W seats).shown), x3, x4]) ⟨rfl, none, none, rfl⟩ ?_ ?_)
  · rintro i d δ G' N hd ⟨rfl, x3, x4, rfl⟩ hN
    refine ⟨hq1, ?_⟩
    obtain ⟨st, rfl, hg, hrk, htx⟩ : ∃ st, d = encM W st ∧ Good W st ∧ Rok (owL st) ∧ TxOk W st := by
      have : d ∈ [encM W seats, .tup [.int W, .tup []]] := List.mem_of_getElem? hd
      simp only [List.mem_cons, List.not_mem_nil, or_false] at this
      rcases this with rfl | rfl
      · exact ⟨seats, rfl, hM.good, hM.rok (by decide), ht⟩
      · exact ⟨[], rfl, good_nil hM.good.1, ⟨1, 0, by decide, Nat.one_lt_two_pow (by decide), by simp [owL]; exact Nat.two_pow_pos _, by simp [owL]⟩, ⟨ht.w, by simp, by simp⟩⟩
    simp only [dSeq, dNext, dRet, dRetN, dIfS, dDrop, dAsg, gdName, gdTup, gdNil, gdCons, dPar, dVar, dC, dOp, dCB, dCall, dCons, dNil, dTup, dLst, dB, dNot, dTru, dAnd, dOr, dAndV, dOrV, dNotV, dIf, dChain, dNeg, startD, List.map, List.length, List.replicate, List.append, List.cons_append, List.nil_append, List.append_nil, List.getElem?_cons_zero, List.getElem?_cons_succ, List.set_cons_zero, List.set_cons_succ, List.set_nil, Nat.sub_self, Nat.add_one_sub_one, Nat.reduceAdd, Nat.reduceSub, List.replicate_zero, List.replicate_succ, ixD_tup0, ixD_tup1, ixD_enc0, ixD_enc1, two_le_size, true_and, subD, modD, divD, powD, ltD, leD, gtD, geD, dLc, dFor, dYes, dRaise, dMt, dMt0, dSl, dPart, dNoPart, dFmt, dJoined, dJs, dOrT, forD, diSeq, diRng1, diRng2, diEnum, diZip2, diZip3, dWhile, dLenSet, bindP, bindPs, wipeD, dListRng, gdStar, gdSub, List.map_cons, List.map_nil, eqD_ii, eqD_ss, eqD_bb, neD_ii, neD_ss, neD_bb, truD_bl, truD_int, truD_non, truD_str, truD_tup, truD_rol, isB_bl, walkD_tup, walkD_rol, walkD_str, lenD_str, lenD_tupE, lenD_rolE, rdI_ii, addD_ii, addD_ss, addD_tt, mulD_ii, absD_i, maxD_ii, minD_ii, divmodD_ii, strD_i, intD_s, isND_nn, zero_le_size, List.length_cons, List.length_nil, sp_moment_text, sp1, isiD, sp__law_text, sp_read_moment, dRepr]
    refine ⟨W, st, rfl, htx, ?_⟩
    try simp only [dSeq, dNext, dRet, dRetN, dIfS, dDrop, dAsg, gdName, gdTup, gdNil, gdCons, dPar, dVar, dC, dOp, dCB, dCall, dCons, dNil, dTup, dLst, dB, dNot, dTru, dAnd, dOr, dAndV, dOrV, dNotV, dIf, dChain, dNeg, startD, List.map, List.length, List.replicate, List.append, List.cons_append, List.nil_append, List.append_nil, List.getElem?_cons_zero, List.getElem?_cons_succ, List.set_cons_zero, List.set_cons_succ, List.set_nil, Nat.sub_self, Nat.add_one_sub_one, Nat.reduceAdd, Nat.reduceSub, List.replicate_zero, List.replicate_succ, ixD_tup0, ixD_tup1, ixD_enc0, ixD_enc1, two_le_size, true_and, subD, modD, divD, powD, ltD, leD, gtD, geD, dLc, dFor, dYes, dRaise, dMt, dMt0, dSl, dPart, dNoPart, dFmt, dJoined, dJs, dOrT, forD, diSeq, diRng1, diRng2, diEnum, diZip2, diZip3, dWhile, dLenSet, bindP, bindPs, wipeD, dListRng, gdStar, gdSub, List.map_cons, List.map_nil, eqD_ii, eqD_ss, eqD_bb, neD_ii, neD_ss, neD_bb, truD_bl, truD_int, truD_non, truD_str, truD_tup, truD_rol, isB_bl, walkD_tup, walkD_rol, walkD_str, lenD_str, lenD_tupE, lenD_rolE, rdI_ii, addD_ii, addD_ss, addD_tt, mulD_ii, absD_i, maxD_ii, minD_ii, divmodD_ii, strD_i, intD_s, isND_nn, zero_le_size, List.length_cons, List.length_nil]
    refine ⟨by simp, _, rfl, ?_⟩
    simp only [isN]
    refine ⟨W, st, rfl, htx, ?_⟩
    try simp only [dSeq, dNext, dRet, dRetN, dIfS, dDrop, dAsg, gdName, gdTup, gdNil, gdCons, dPar, dVar, dC, dOp, dCB, dCall, dCons, dNil, dTup, dLst, dB, dNot, dTru, dAnd, dOr, dAndV, dOrV, dNotV, dIf, dChain, dNeg, startD, List.map, List.length, List.replicate, List.append, List.cons_append, List.nil_append, List.append_nil, List.getElem?_cons_zero, List.getElem?_cons_succ, List.set_cons_zero, List.set_cons_succ, List.set_nil, Nat.sub_self, Nat.add_one_sub_one, Nat.reduceAdd, Nat.reduceSub, List.replicate_zero, List.replicate_succ, ixD_tup0, ixD_tup1, ixD_enc0, ixD_enc1, two_le_size, true_and, subD, modD, divD, powD, ltD, leD, gtD, geD, dLc, dFor, dYes, dRaise, dMt, dMt0, dSl, dPart, dNoPart, dFmt, dJoined, dJs, dOrT, forD, diSeq, diRng1, diRng2, diEnum, diZip2, diZip3, dWhile, dLenSet, bindP, bindPs, wipeD, dListRng, gdStar, gdSub, List.map_cons, List.map_nil, eqD_ii, eqD_ss, eqD_bb, neD_ii, neD_ss, neD_bb, truD_bl, truD_int, truD_non, truD_str, truD_tup, truD_rol, isB_bl, walkD_tup, walkD_rol, walkD_str, lenD_str, lenD_tupE, lenD_rolE, rdI_ii, addD_ii, addD_ss, addD_tt, mulD_ii, absD_i, maxD_ii, minD_ii, divmodD_ii, strD_i, intD_s, isND_nn, zero_le_size, List.length_cons, List.length_nil]
    simp only [decide_true, Bool.not_true, Bool.false_eq_true, if_false]
    refine ⟨W, st, rfl, hg, hrk, htx, reprM htx hg.2.1 (reprM htx hg.2.1 ?_)⟩
    try simp only [dSeq, dNext, dRet, dRetN, dIfS, dDrop, dAsg, gdName, gdTup, gdNil, gdCons, dPar, dVar, dC, dOp, dCB, dCall, dCons, dNil, dTup, dLst, dB, dNot, dTru, dAnd, dOr, dAndV, dOrV, dNotV, dIf, dChain, dNeg, startD, List.map, List.length, List.replicate, List.append, List.cons_append, List.nil_append, List.append_nil, List.getElem?_cons_zero, List.getElem?_cons_succ, List.set_cons_zero, List.set_cons_succ, List.set_nil, Nat.sub_self, Nat.add_one_sub_one, Nat.reduceAdd, Nat.reduceSub, List.replicate_zero, List.replicate_succ, ixD_tup0, ixD_tup1, ixD_enc0, ixD_enc1, two_le_size, true_and, subD, modD, divD, powD, ltD, leD, gtD, geD, dLc, dFor, dYes, dRaise, dMt, dMt0, dSl, dPart, dNoPart, dFmt, dJoined, dJs, dOrT, forD, diSeq, diRng1, diRng2, diEnum, diZip2, diZip3, dWhile, dLenSet, bindP, bindPs, wipeD, dListRng, gdStar, gdSub, List.map_cons, List.map_nil, eqD_ii, eqD_ss, eqD_bb, neD_ii, neD_ss, neD_bb, truD_bl, truD_int, truD_non, truD_str, truD_tup, truD_rol, isB_bl, walkD_tup, walkD_rol, walkD_str, lenD_str, lenD_tupE, lenD_rolE, rdI_ii, addD_ii, addD_ss, addD_tt, mulD_ii, absD_i, maxD_ii, minD_ii, divmodD_ii, strD_i, intD_s, isND_nn, zero_le_size, List.length_cons, List.length_nil]
    simp only [decide_true, Bool.not_true, Bool.false_eq_true, if_false]
    refine ⟨W, st, rfl, hg, hrk, htx, by simp, _, rfl, ?_⟩
    try simp only [dSeq, dNext, dRet, dRetN, dIfS, dDrop, dAsg, gdName, gdTup, gdNil, gdCons, dPar, dVar, dC, dOp, dCB, dCall, dCons, dNil, dTup, dLst, dB, dNot, dTru, dAnd, dOr, dAndV, dOrV, dNotV, dIf, dChain, dNeg, startD, List.map, List.length, List.replicate, List.append, List.cons_append, List.nil_append, List.append_nil, List.getElem?_cons_zero, List.getElem?_cons_succ, List.set_cons_zero, List.set_cons_succ, List.set_nil, Nat.sub_self, Nat.add_one_sub_one, Nat.reduceAdd, Nat.reduceSub, List.replicate_zero, List.replicate_succ, ixD_tup0, ixD_tup1, ixD_enc0, ixD_enc1, two_le_size, true_and, subD, modD, divD, powD, ltD, leD, gtD, geD, dLc, dFor, dYes, dRaise, dMt, dMt0, dSl, dPart, dNoPart, dFmt, dJoined, dJs, dOrT, forD, diSeq, diRng1, diRng2, diEnum, diZip2, diZip3, dWhile, dLenSet, bindP, bindPs, wipeD, dListRng, gdStar, gdSub, List.map_cons, List.map_nil, eqD_ii, eqD_ss, eqD_bb, neD_ii, neD_ss, neD_bb, truD_bl, truD_int, truD_non, truD_str, truD_tup, truD_rol, isB_bl, walkD_tup, walkD_rol, walkD_str, lenD_str, lenD_tupE, lenD_rolE, rdI_ii, addD_ii, addD_ss, addD_tt, mulD_ii, absD_i, maxD_ii, minD_ii, divmodD_ii, strD_i, intD_s, isND_nn, zero_le_size, List.length_cons, List.length_nil]
    exact hN _ _ ⟨rfl, _, _, rfl⟩
  · rintro δ G' ⟨rfl, x3, x4, rfl⟩
    refine ⟨hq1, ?_⟩
    simp only [dSeq, dNext, dRet, dRetN, dIfS, dDrop, dAsg, gdName, gdTup, gdNil, gdCons, dPar, dVar, dC, dOp, dCB, dCall, dCons, dNil, dTup, dLst, dB, dNot, dTru, dAnd, dOr, dAndV, dOrV, dNotV, dIf, dChain, dNeg, startD, List.map, List.length, List.replicate, List.append, List.cons_append, List.nil_append, List.append_nil, List.getElem?_cons_zero, List.getElem?_cons_succ, List.set_cons_zero, List.set_cons_succ, List.set_nil, Nat.sub_self, Nat.add_one_sub_one, Nat.reduceAdd, Nat.reduceSub, List.replicate_zero, List.replicate_succ, ixD_tup0, ixD_tup1, ixD_enc0, ixD_enc1, two_le_size, true_and, subD, modD, divD, powD, ltD, leD, gtD, geD, dLc, dFor, dYes, dRaise, dMt, dMt0, dSl, dPart, dNoPart, dFmt, dJoined, dJs, dOrT, forD, diSeq, diRng1, diRng2, diEnum, diZip2, diZip3, dWhile, dLenSet, bindP, bindPs, wipeD, dListRng, gdStar, gdSub, List.map_cons, List.map_nil, eqD_ii, eqD_ss, eqD_bb, neD_ii, neD_ss, neD_bb, truD_bl, truD_int, truD_non, truD_str, truD_tup, truD_rol, isB_bl, walkD_tup, walkD_rol, walkD_str, lenD_str, lenD_tupE, lenD_rolE, rdI_ii, addD_ii, addD_ss, addD_tt, mulD_ii, absD_i, maxD_ii, minD_ii, divmodD_ii, strD_i, intD_s, isND_nn, zero_le_size, List.length_cons, List.length_nil, dRepr]
    refine reprM ht hM.good.2.1 ?_
    try simp only [dSeq, dNext, dRet, dRetN, dIfS, dDrop, dAsg, gdName, gdTup, gdNil, gdCons, dPar, dVar, dC, dOp, dCB, dCall, dCons, dNil, dTup, dLst, dB, dNot, dTru, dAnd, dOr, dAndV, dOrV, dNotV, dIf, dChain, dNeg, startD, List.map, List.length, List.replicate, List.append, List.cons_append, List.nil_append, List.append_nil, List.getElem?_cons_zero, List.getElem?_cons_succ, List.set_cons_zero, List.set_cons_succ, List.set_nil, Nat.sub_self, Nat.add_one_sub_one, Nat.reduceAdd, Nat.reduceSub, List.replicate_zero, List.replicate_succ, ixD_tup0, ixD_tup1, ixD_enc0, ixD_enc1, two_le_size, true_and, subD, modD, divD, powD, ltD, leD, gtD, geD, dLc, dFor, dYes, dRaise, dMt, dMt0, dSl, dPart, dNoPart, dFmt, dJoined, dJs, dOrT, forD, diSeq, diRng1, diRng2, diEnum, diZip2, diZip3, dWhile, dLenSet, bindP, bindPs, wipeD, dListRng, gdStar, gdSub, List.map_cons, List.map_nil, eqD_ii, eqD_ss, eqD_bb, neD_ii, neD_ss, neD_bb, truD_bl, truD_int, truD_non, truD_str, truD_tup, truD_rol, isB_bl, walkD_tup, walkD_rol, walkD_str, lenD_str, lenD_tupE, lenD_rolE, rdI_ii, addD_ii, addD_ss, addD_tt, mulD_ii, absD_i, maxD_ii, minD_ii, divmodD_ii, strD_i, intD_s, isND_nn, zero_le_size, List.length_cons, List.length_nil]
    exact fo0 (by simpa using hQ _ L2)

def sp_law : DSp := sp1 fun a G Q _ => ∃ ns : List Int, a = .rol (ns.map D.int) ∧ ns.length ≤ 63 ∧ Q (.bl true) G
abbrev s_law : Stmt := topS 60
abbrev N_law : List Str := ["script", "k"]
theorem sc_law : FnScope N_law ["script"] (defScope s_law) := ⟨rfl, rfl, rfl, by decide +kernel, rfl, by decide +kernel, by decide +kernel⟩
theorem fn_law {f : Addr} {fd : FuncData} (F : Fun K "law" "law" s_law f fd) (T : Tx K mg) (h__law_pot : Has P w K mg base 1 "_law_pot" 2 [] sp__law_pot) (h__law_one : Has P w K mg base 9 "_law_one" 1 [] sp__law_one) : FnG P w K mg base 10 f fd ["script"] (liftSp K mg sp_law) := by
  refine FnG.ofF F sc_law len1 fun f cdv A outer s H E ds G Q Ed B hp h => ⟨_, (s_one (s_ret (d_callB (c_all B.hc) T.b.all boot_all (a_cons (d_lc (own := [("k", 1)]) (p := .nm 1) B.hc sc_law.nd (blkOk_by (own := [("k", 1)]) (N := N_law) (by kernel_rfl)) (by decide) (i_rng1 T.b.range (a_cons (d_callB (c_max B.hc) T.b.max boot_max (a_cons d_int (a_cons (d_callB (c_min B.hc) T.b.min boot_min (a_cons (d_callB c_len T.b.len boot_len (a_cons (d_var 0) a_nil)) (a_cons d_int a_nil))) a_nil))) a_nil)) (fun s1 H1 C1 cl1 fp1 => (p_name (i := 1) sc_law.nd)) (fun s1 H1 C1 cl1 fp1 => ts_nil) (fun s1 H1 C1 cl1 fp1 => (d_call h__law_one (B.blk s1 H1 _ _ fp1) (a_cons (d_call h__law_pot (B.blk s1 H1 _ _ fp1) (a_cons (d_var 0) (a_cons (d_var 1) a_nil))) a_nil)))) a_nil)))), ?_⟩

  obtain ⟨a, rfl, ns, rfl, hn, hQ⟩ := sp1_ex h
  simp only [dSeq, dNext, dRet, dRetN, dIfS, dDrop, dAsg, gdName, gdTup, gdNil, gdCons, dPar, dVar, dC, dOp, dCB, dCall, dCons, dNil, dTup, dLst, dB, dNot, dTru, dAnd, dOr, dAndV, dOrV, dNotV, dIf, dChain, dNeg, startD, List.map, List.length, List.replicate, List.append, List.cons_append, List.nil_append, List.append_nil, List.getElem?_cons_zero, List.getElem?_cons_succ, List.set_cons_zero, List.set_cons_succ, List.set_nil, Nat.sub_self, Nat.add_one_sub_one, Nat.reduceAdd, Nat.reduceSub, List.replicate_zero, List.replicate_succ, ixD_tup0, ixD_tup1, ixD_enc0, ixD_enc1, two_le_size, true_and, subD, modD, divD, powD, ltD, leD, gtD, geD, dLc, dFor, dYes, dRaise, dMt, dMt0, dSl, dPart, dNoPart, dFmt, dJoined, dJs, dOrT, forD, diSeq, diRng1, diRng2, diEnum, diZip2, diZip3, dWhile, dLenSet, bindP, bindPs, wipeD, dListRng, gdStar, gdSub, List.map_cons, List.map_nil, eqD_ii, eqD_ss, eqD_bb, neD_ii, neD_ss, neD_bb, truD_bl, truD_int, truD_non, truD_str, truD_tup, truD_rol, isB_bl, walkD_tup, walkD_rol, walkD_str, lenD_str, lenD_tupE, lenD_rolE, rdI_ii, addD_ii, addD_ss, addD_tt, mulD_ii, absD_i, maxD_ii, minD_ii, divmodD_ii, strD_i, intD_s, isND_nn, zero_le_size, List.length_cons, List.length_nil]
  rw [List.length_map]
  generalize hm : (if (if (8 : Int) < (ns.length : Nat) then (8 : Int) else (ns.length : Nat)) > 1 then (if (8 : Int) < (ns.length : Nat) then (8 : Int) else (ns.length : Nat)) else 1) = m
  have h1 : 1 ≤ m ∧ m ≤ 8 := by
    subst hm
    constructor
    · split <;> omega
    · split <;> (try split) <;> omega
  refine ⟨⟨by omega, by omega⟩, fun l hl => ?_⟩
  unfold rangeD
  refine lcD_map1 (fun _ => .bl true) hl (by rw [List.length_range, sizeLine_eq]; omega) (fun _ _ _ => trivial) (fun k hk => ⟨_, rfl, fun acc G' N L h => ?_⟩) (fun G' L => ?_)
  · have hk8 : k < 8 := by have := List.mem_range.mp hk; omega
    simp only [dSeq, dNext, dRet, dRetN, dIfS, dDrop, dAsg, gdName, gdTup, gdNil, gdCons, dPar, dVar, dC, dOp, dCB, dCall, dCons, dNil, dTup, dLst, dB, dNot, dTru, dAnd, dOr, dAndV, dOrV, dNotV, dIf, dChain, dNeg, startD, List.map, List.length, List.replicate, List.append, List.cons_append, List.nil_append, List.append_nil, List.getElem?_cons_zero, List.getElem?_cons_succ, List.set_cons_zero, List.set_cons_succ, List.set_nil, Nat.sub_self, Nat.add_one_sub_one, Nat.reduceAdd, Nat.reduceSub, List.replicate_zero, List.replicate_succ, ixD_tup0, ixD_tup1, ixD_enc0, ixD_enc1, two_le_size, true_and, subD, modD, divD, powD, ltD, leD, gtD, geD, dLc, dFor, dYes, dRaise, dMt, dMt0, dSl, dPart, dNoPart, dFmt, dJoined, dJs, dOrT, forD, diSeq, diRng1, diRng2, diEnum, diZip2, diZip3, dWhile, dLenSet, bindP, bindPs, wipeD, dListRng, gdStar, gdSub, List.map_cons, List.map_nil, eqD_ii, eqD_ss, eqD_bb, neD_ii, neD_ss, neD_bb, truD_bl, truD_int, truD_non, truD_str, truD_tup, truD_rol, isB_bl, walkD_tup, walkD_rol, walkD_str, lenD_str, lenD_tupE, lenD_rolE, rdI_ii, addD_ii, addD_ss, addD_tt, mulD_ii, absD_i, maxD_ii, minD_ii, divmodD_ii, strD_i, intD_s, isND_nn, zero_le_size, List.length_cons, List.length_nil, sp__law_pot, sp2, sp__law_one, sp1]
    refine ⟨ns, k, rfl, by congr 1; omega, hn, by omega, fun q x y hxy hq => ?_⟩
    refine ⟨q, rfl, ⟨x, y, gupd_same, hxy⟩, fun G2 L2 => h _ fun a o e => ?_⟩
    have e2 := L a o e
    have hne : a ≠ q := by rintro rfl; rw [hq] at e2; cases e2
    exact L2.old a o hne (by rw [gupd_ne hne]; exact e2)
  · refine allD_at (bs := (List.range m.toNat).map fun _ => true) (by rw [L.at, List.map_map]; rfl) ?_
    have : ((List.range m.toNat).map fun _ => true).all id = true := by simp
    rw [this]
    exact Fo.mk ((Less.new (.refl G) hl).trans L) hQ

end
end Q
set_option maxHeartbeats 4000000
namespace Q
open PySem PySem.Spec PyProof.Rows L2
abbrev s__law_among : Stmt := topS 45
abbrev Rw : PySem.W.OpenRow := PySem.W.OpenLaw.row PySem.Challenge.rw_whoserves_k91_texts_there_and_back
def nm0 : List Str := ["__name__", "ClubError", "NoWeight", "NoText", "NOUGHT", "FIGURES", "STROKE", "is_whole", "common", "lowest", "is_part", "plus"]
def nm1 : List Str := ["is_less", "part_text", "number_read", "read_part", "greatest_first", "sums_ahead", "most", "fall", "is_within", "LETTERS", "MOST_LETTERS", "EMPTY"]
def nm2 : List Str := ["is_name", "is_weight", "want_weight", "is_seat", "is_moment", "moment_of", "owing", "persons", "NOBODY", "WEIGHT", "SEAT", "moment_text"]
def nm3 : List Str := ["seat_read", "read_moment", "_law_pot", "_law_digit", "_law_among", "_law_name", "_law_names", "_law_low", "_law_plus", "_law_less", "_law_sum", "_law_first"]
def nm4 : List Str := ["_law_number", "_law_row", "_law_weight", "_law_moment", "_law_part_text", "_law_text", "_law_one"]
def nmsl : List Str := nm0 ++ nm1 ++ nm2 ++ nm3 ++ nm4
def d__law_pot : He.DefD := ⟨("_law_pot", none), "_law_pot", "_law_pot", defArgs s__law_pot, defBody s__law_pot, defScope s__law_pot, [], []⟩
def d_is_whole : He.DefD := ⟨("is_whole", none), "is_whole", "is_whole", defArgs s_is_whole, defBody s_is_whole, defScope s_is_whole, [], []⟩
def d_is_weight : He.DefD := ⟨("is_weight", none), "is_weight", "is_weight", defArgs s_is_weight, defBody s_is_weight, defScope s_is_weight, [], []⟩
def d_want_weight : He.DefD := ⟨("want_weight", none), "want_weight", "want_weight", defArgs s_want_weight, defBody s_want_weight, defScope s_want_weight, [], []⟩
def d_moment_of : He.DefD := ⟨("moment_of", none), "moment_of", "moment_of", defArgs s_moment_of, defBody s_moment_of, defScope s_moment_of, [], []⟩
def d_part_text : He.DefD := ⟨("part_text", none), "part_text", "part_text", defArgs s_part_text, defBody s_part_text, defScope s_part_text, [], []⟩
def d_moment_text : He.DefD := ⟨("moment_text", none), "moment_text", "moment_text", defArgs s_moment_text, defBody s_moment_text, defScope s_moment_text, [], []⟩
def d_common : He.DefD := ⟨("common", none), "common", "common", defArgs s_common, defBody s_common, defScope s_common, [], []⟩
def d_lowest : He.DefD := ⟨("lowest", none), "lowest", "lowest", defArgs s_lowest, defBody s_lowest, defScope s_lowest, [], []⟩
def d_number_read : He.DefD := ⟨("number_read", none), "number_read", "number_read", defArgs s_number_read, defBody s_number_read, defScope s_number_read, [], []⟩
def d_read_part : He.DefD := ⟨("read_part", none), "read_part", "read_part", defArgs s_read_part, defBody s_read_part, defScope s_read_part, [], []⟩
def d_plus : He.DefD := ⟨("plus", none), "plus", "plus", defArgs s_plus, defBody s_plus, defScope s_plus, [], []⟩
def d_is_less : He.DefD := ⟨("is_less", none), "is_less", "is_less", defArgs s_is_less, defBody s_is_less, defScope s_is_less, [], []⟩
def d_greatest_first : He.DefD := ⟨("greatest_first", none), "greatest_first", "greatest_first", defArgs s_greatest_first, defBody s_greatest_first, defScope s_greatest_first, [], []⟩
def d_sums_ahead : He.DefD := ⟨("sums_ahead", none), "sums_ahead", "sums_ahead", defArgs s_sums_ahead, defBody s_sums_ahead, defScope s_sums_ahead, [], []⟩
def d_most : He.DefD := ⟨("most", none), "most", "most", defArgs s_most, defBody s_most, defScope s_most, [], []⟩
def d_fall : He.DefD := ⟨("fall", none), "fall", "fall", defArgs s_fall, defBody s_fall, defScope s_fall, [], []⟩
def d_is_within : He.DefD := ⟨("is_within", none), "is_within", "is_within", defArgs s_is_within, defBody s_is_within, defScope s_is_within, [], []⟩
def d_is_part : He.DefD := ⟨("is_part", none), "is_part", "is_part", defArgs s_is_part, defBody s_is_part, defScope s_is_part, [], []⟩
def d_is_name : He.DefD := ⟨("is_name", none), "is_name", "is_name", defArgs s_is_name, defBody s_is_name, defScope s_is_name, [], []⟩
def d_is_seat : He.DefD := ⟨("is_seat", none), "is_seat", "is_seat", defArgs s_is_seat, defBody s_is_seat, defScope s_is_seat, [], []⟩
def d_owing : He.DefD := ⟨("owing", none), "owing", "owing", defArgs s_owing, defBody s_owing, defScope s_owing, [], []⟩
def d_persons : He.DefD := ⟨("persons", none), "persons", "persons", defArgs s_persons, defBody s_persons, defScope s_persons, [], []⟩
def d_is_moment : He.DefD := ⟨("is_moment", none), "is_moment", "is_moment", defArgs s_is_moment, defBody s_is_moment, defScope s_is_moment, [], []⟩
def d_seat_read : He.DefD := ⟨("seat_read", none), "seat_read", "seat_read", defArgs s_seat_read, defBody s_seat_read, defScope s_seat_read, [], []⟩
def d_read_moment : He.DefD := ⟨("read_moment", none), "read_moment", "read_moment", defArgs s_read_moment, defBody s_read_moment, defScope s_read_moment, [], []⟩
def d__law_digit : He.DefD := ⟨("_law_digit", none), "_law_digit", "_law_digit", defArgs s__law_digit, defBody s__law_digit, defScope s__law_digit, [], []⟩
def d__law_name : He.DefD := ⟨("_law_name", none), "_law_name", "_law_name", defArgs s__law_name, defBody s__law_name, defScope s__law_name, [], []⟩
def d__law_names : He.DefD := ⟨("_law_names", none), "_law_names", "_law_names", defArgs s__law_names, defBody s__law_names, defScope s__law_names, [], []⟩
def d__law_low : He.DefD := ⟨("_law_low", none), "_law_low", "_law_low", defArgs s__law_low, defBody s__law_low, defScope s__law_low, [], []⟩
def d__law_plus : He.DefD := ⟨("_law_plus", none), "_law_plus", "_law_plus", defArgs s__law_plus, defBody s__law_plus, defScope s__law_plus, [], []⟩
def d__law_sum : He.DefD := ⟨("_law_sum", none), "_law_sum", "_law_sum", defArgs s__law_sum, defBody s__law_sum, defScope s__law_sum, [], []⟩
def d__law_number : He.DefD := ⟨("_law_number", none), "_law_number", "_law_number", defArgs s__law_number, defBody s__law_number, defScope s__law_number, [], []⟩
def d__law_row : He.DefD := ⟨("_law_row", none), "_law_row", "_law_row", defArgs s__law_row, defBody s__law_row, defScope s__law_row, [], []⟩
def d__law_less : He.DefD := ⟨("_law_less", none), "_law_less", "_law_less", defArgs s__law_less, defBody s__law_less, defScope s__law_less, [], []⟩
def d__law_first : He.DefD := ⟨("_law_first", none), "_law_first", "_law_first", defArgs s__law_first, defBody s__law_first, defScope s__law_first, [], []⟩
def d__law_weight : He.DefD := ⟨("_law_weight", none), "_law_weight", "_law_weight", defArgs s__law_weight, defBody s__law_weight, defScope s__law_weight, [], []⟩
def d__law_moment : He.DefD := ⟨("_law_moment", none), "_law_moment", "_law_moment", defArgs s__law_moment, defBody s__law_moment, defScope s__law_moment, [], []⟩
def d__law_part_text : He.DefD := ⟨("_law_part_text", none), "_law_part_text", "_law_part_text", defArgs s__law_part_text, defBody s__law_part_text, defScope s__law_part_text, [], []⟩
def d__law_text : He.DefD := ⟨("_law_text", none), "_law_text", "_law_text", defArgs s__law_text, defBody s__law_text, defScope s__law_text, [], []⟩
def d__law_one : He.DefD := ⟨("_law_one", none), "_law_one", "_law_one", defArgs s__law_one, defBody s__law_one, defScope s__law_one, [], []⟩
def d_law : He.DefD := ⟨("law", none), "law", "law", defArgs s_law, defBody s_law, defScope s_law, [], []⟩
def fnl : List He.DefD := [d__law_pot, d_is_whole, d_is_weight, d_want_weight, d_moment_of, d_part_text, d_moment_text, d_common, d_lowest, d_number_read, d_read_part, d_plus, d_is_less, d_greatest_first, d_sums_ahead, d_most, d_fall, d_is_within, d_is_part, d_is_name, d_is_seat, d_owing, d_persons, d_is_moment, d_seat_read, d_read_moment, d__law_digit, d__law_name, d__law_names, d__law_low, d__law_plus, d__law_sum, d__law_number, d__law_row, d__law_less, d__law_first, d__law_weight, d__law_moment, d__law_part_text, d__law_text, d__law_one, d_law]
def fal : List He.Fa := [.free "abs", .free "len", .free "all", .free "any", .free "sum", .free "max", .free "min", .free "divmod", .free "isinstance", .free "list", .free "tuple", .free "str", .free "int", .free "bool", .free "dict", .free "set", .free "range", .free "enumerate", .free "zip", .free "sorted", .free "repr", .glo "_law_pot", .glo "is_whole", .glo "is_weight", .glo "want_weight", .glo "moment_of", .glo "part_text", .glo "moment_text", .glo "common", .glo "lowest", .glo "number_read", .glo "read_part", .glo "plus", .glo "is_less", .glo "greatest_first", .glo "sums_ahead", .glo "most", .glo "fall", .glo "is_within", .glo "is_part", .glo "is_name", .glo "is_seat", .glo "owing", .glo "persons", .glo "is_moment", .glo "seat_read", .glo "read_moment", .glo "_law_digit", .glo "_law_name", .glo "_law_names", .glo "_law_low", .glo "_law_plus", .glo "_law_sum", .glo "_law_number", .glo "_law_row", .glo "_law_less", .glo "_law_first", .glo "_law_weight", .glo "_law_moment", .glo "_law_part_text", .glo "_law_text", .glo "_law_one", .glo "law", .glo "NOUGHT", .str "FIGURES" "0123456789", .str "STROKE" "/", .str "LETTERS" "abcdefghijklmnopqrstuvwxyz", .int "MOST_LETTERS" 8, .str "EMPTY" "", .str "NOBODY" "-", .str "WEIGHT" "weight ", .str "SEAT" "seat", .glo "ClubError", .exc "ClubError", .glo "NoWeight", .exc "NoWeight", .glo "NoText", .exc "NoText"]
def exl (K : PySem.W.Frag) : Bool := He.tupB K "NOUGHT" [.int 0, .int 1]
abbrev hkl : PySem.W.Hook := hookQ 4 fal fnl exl
def obl (s : PySem.W.SharedT) : AlQ := obsQ 4 fal fnl exl (HandSHeadRun.getT s)
theorem obl_eq (s : PySem.W.SharedT) : obl s = hkl.obs s.abs := obsQ_eq (HandSHeadRun.getT_eq s)
theorem runl (w : World) : HandSHeadRun.RunEq Rw (PySem.W.view Rw.prog [60]) hkl obl 4000 nmsl w := by
  intro os
  kernel_rfl
theorem tx_of {K : PySem.W.Frag} {h : Heap} {mg : Str → Option Value} (X : K.In h) (G : h.Ns mainGlobals mg) (c : SaysQ fal fnl exl K) : Tx K mg where
  b := ⟨He.free_ok X G (c.d.fact 0 (f := .free "abs") rfl), He.free_ok X G (c.d.fact 1 (f := .free "len") rfl), He.free_ok X G (c.d.fact 2 (f := .free "all") rfl), He.free_ok X G (c.d.fact 3 (f := .free "any") rfl), He.free_ok X G (c.d.fact 4 (f := .free "sum") rfl), He.free_ok X G (c.d.fact 5 (f := .free "max") rfl), He.free_ok X G (c.d.fact 6 (f := .free "min") rfl), He.free_ok X G (c.d.fact 7 (f := .free "divmod") rfl), He.free_ok X G (c.d.fact 8 (f := .free "isinstance") rfl), He.free_ok X G (c.d.fact 9 (f := .free "list") rfl), He.free_ok X G (c.d.fact 10 (f := .free "tuple") rfl), He.free_ok X G (c.d.fact 11 (f := .free "str") rfl), He.free_ok X G (c.d.fact 12 (f := .free "int") rfl), He.free_ok X G (c.d.fact 13 (f := .free "bool") rfl), He.free_ok X G (c.d.fact 14 (f := .free "dict") rfl), He.free_ok X G (c.d.fact 15 (f := .free "set") rfl), He.free_ok X G (c.d.fact 16 (f := .free "range") rfl), He.free_ok X G (c.d.fact 17 (f := .free "enumerate") rfl), He.free_ok X G (c.d.fact 18 (f := .free "zip") rfl), He.free_ok X G (c.d.fact 19 (f := .free "sorted") rfl), He.free_ok X G (c.d.fact 20 (f := .free "repr") rfl)⟩
  g_NOUGHT := gc_int2 X G (c.d.fact 63 (f := .glo "NOUGHT") rfl) c.x
  g_FIGURES := gc_str X G (c.d.fact 64 (f := .str "FIGURES" "0123456789") rfl)
  g_STROKE := gc_str X G (c.d.fact 65 (f := .str "STROKE" "/") rfl)
  g_LETTERS := gc_str X G (c.d.fact 66 (f := .str "LETTERS" "abcdefghijklmnopqrstuvwxyz") rfl)
  g_MOST_LETTERS := gc_int X G (c.d.fact 67 (f := .int "MOST_LETTERS" 8) rfl)
  g_EMPTY := gc_str X G (c.d.fact 68 (f := .str "EMPTY" "") rfl)
  g_NOBODY := gc_str X G (c.d.fact 69 (f := .str "NOBODY" "-") rfl)
  g_WEIGHT := gc_str X G (c.d.fact 70 (f := .str "WEIGHT" "weight ") rfl)
  g_SEAT := gc_str X G (c.d.fact 71 (f := .str "SEAT" "seat") rfl)
  x_ClubError := exc_of X G (c.d.fact 72 (f := .glo "ClubError") rfl) (c.d.fact 73 (f := .exc "ClubError") rfl)
  x_NoWeight := exc_of X G (c.d.fact 74 (f := .glo "NoWeight") rfl) (c.d.fact 75 (f := .exc "NoWeight") rfl)
  x_NoText := exc_of X G (c.d.fact 76 (f := .glo "NoText") rfl) (c.d.fact 77 (f := .exc "NoText") rfl)
theorem law_end {P : Program} {w : World} {K : PySem.W.Frag} {h : Heap} {mg : Str → Option Value} (X : K.In h) (G : h.Ns mainGlobals mg) (c : SaysQ fal fnl exl K) : ∃ f fd, mg "law" = some (.ref f) ∧ (∀ (s : Shared) (u : Value), BindsTo s fd ⟨[u], []⟩ [("script", u)]) ∧ ∀ base : Heap, FnG P w K mg base 10 f fd ["script"] (liftSp K mg sp_law) := by
  have T := tx_of X G c
  have F__law_pot : FunH K mg "_law_pot" s__law_pot := funH_of X G (c.d.fact 21 (f := .glo "_law_pot") rfl) (c.d.def_ 0 (d := d__law_pot) rfl)
  have F_is_whole : FunH K mg "is_whole" s_is_whole := funH_of X G (c.d.fact 22 (f := .glo "is_whole") rfl) (c.d.def_ 1 (d := d_is_whole) rfl)
  have F_is_weight : FunH K mg "is_weight" s_is_weight := funH_of X G (c.d.fact 23 (f := .glo "is_weight") rfl) (c.d.def_ 2 (d := d_is_weight) rfl)
  have F_want_weight : FunH K mg "want_weight" s_want_weight := funH_of X G (c.d.fact 24 (f := .glo "want_weight") rfl) (c.d.def_ 3 (d := d_want_weight) rfl)
  have F_moment_of : FunH K mg "moment_of" s_moment_of := funH_of X G (c.d.fact 25 (f := .glo "moment_of") rfl) (c.d.def_ 4 (d := d_moment_of) rfl)
  have F_part_text : FunH K mg "part_text" s_part_text := funH_of X G (c.d.fact 26 (f := .glo "part_text") rfl) (c.d.def_ 5 (d := d_part_text) rfl)
  have F_moment_text : FunH K mg "moment_text" s_moment_text := funH_of X G (c.d.fact 27 (f := .glo "moment_text") rfl) (c.d.def_ 6 (d := d_moment_text) rfl)
  have F_common : FunH K mg "common" s_common := funH_of X G (c.d.fact 28 (f := .glo "common") rfl) (c.d.def_ 7 (d := d_common) rfl)
  have F_lowest : FunH K mg "lowest" s_lowest := funH_of X G (c.d.fact 29 (f := .glo "lowest") rfl) (c.d.def_ 8 (d := d_lowest) rfl)
  have F_number_read : FunH K mg "number_read" s_number_read := funH_of X G (c.d.fact 30 (f := .glo "number_read") rfl) (c.d.def_ 9 (d := d_number_read) rfl)
  have F_read_part : FunH K mg "read_part" s_read_part := funH_of X G (c.d.fact 31 (f := .glo "read_part") rfl) (c.d.def_ 10 (d := d_read_part) rfl)
  have F_plus : FunH K mg "plus" s_plus := funH_of X G (c.d.fact 32 (f := .glo "plus") rfl) (c.d.def_ 11 (d := d_plus) rfl)
  have F_is_less : FunH K mg "is_less" s_is_less := funH_of X G (c.d.fact 33 (f := .glo "is_less") rfl) (c.d.def_ 12 (d := d_is_less) rfl)
  have F_greatest_first : FunH K mg "greatest_first" s_greatest_first := funH_of X G (c.d.fact 34 (f := .glo "greatest_first") rfl) (c.d.def_ 13 (d := d_greatest_first) rfl)
  have F_sums_ahead : FunH K mg "sums_ahead" s_sums_ahead := funH_of X G (c.d.fact 35 (f := .glo "sums_ahead") rfl) (c.d.def_ 14 (d := d_sums_ahead) rfl)
  have F_most : FunH K mg "most" s_most := funH_of X G (c.d.fact 36 (f := .glo "most") rfl) (c.d.def_ 15 (d := d_most) rfl)
  have F_fall : FunH K mg "fall" s_fall := funH_of X G (c.d.fact 37 (f := .glo "fall") rfl) (c.d.def_ 16 (d := d_fall) rfl)
  have F_is_within : FunH K mg "is_within" s_is_within := funH_of X G (c.d.fact 38 (f := .glo "is_within") rfl) (c.d.def_ 17 (d := d_is_within) rfl)
  have F_is_part : FunH K mg "is_part" s_is_part := funH_of X G (c.d.fact 39 (f := .glo "is_part") rfl) (c.d.def_ 18 (d := d_is_part) rfl)
  have F_is_name : FunH K mg "is_name" s_is_name := funH_of X G (c.d.fact 40 (f := .glo "is_name") rfl) (c.d.def_ 19 (d := d_is_name) rfl)
  have F_is_seat : FunH K mg "is_seat" s_is_seat := funH_of X G (c.d.fact 41 (f := .glo "is_seat") rfl) (c.d.def_ 20 (d := d_is_seat) rfl)
  have F_owing : FunH K mg "owing" s_owing := funH_of X G (c.d.fact 42 (f := .glo "owing") rfl) (c.d.def_ 21 (d := d_owing) rfl)
  have F_persons : FunH K mg "persons" s_persons := funH_of X G (c.d.fact 43 (f := .glo "persons") rfl) (c.d.def_ 22 (d := d_persons) rfl)
  have F_is_moment : FunH K mg "is_moment" s_is_moment := funH_of X G (c.d.fact 44 (f := .glo "is_moment") rfl) (c.d.def_ 23 (d := d_is_moment) rfl)
  have F_seat_read : FunH K mg "seat_read" s_seat_read := funH_of X G (c.d.fact 45 (f := .glo "seat_read") rfl) (c.d.def_ 24 (d := d_seat_read) rfl)
  have F_read_moment : FunH K mg "read_moment" s_read_moment := funH_of X G (c.d.fact 46 (f := .glo "read_moment") rfl) (c.d.def_ 25 (d := d_read_moment) rfl)
  have F__law_digit : FunH K mg "_law_digit" s__law_digit := funH_of X G (c.d.fact 47 (f := .glo "_law_digit") rfl) (c.d.def_ 26 (d := d__law_digit) rfl)
  have F__law_name : FunH K mg "_law_name" s__law_name := funH_of X G (c.d.fact 48 (f := .glo "_law_name") rfl) (c.d.def_ 27 (d := d__law_name) rfl)
  have F__law_names : FunH K mg "_law_names" s__law_names := funH_of X G (c.d.fact 49 (f := .glo "_law_names") rfl) (c.d.def_ 28 (d := d__law_names) rfl)
  have F__law_low : FunH K mg "_law_low" s__law_low := funH_of X G (c.d.fact 50 (f := .glo "_law_low") rfl) (c.d.def_ 29 (d := d__law_low) rfl)
  have F__law_plus : FunH K mg "_law_plus" s__law_plus := funH_of X G (c.d.fact 51 (f := .glo "_law_plus") rfl) (c.d.def_ 30 (d := d__law_plus) rfl)
  have F__law_sum : FunH K mg "_law_sum" s__law_sum := funH_of X G (c.d.fact 52 (f := .glo "_law_sum") rfl) (c.d.def_ 31 (d := d__law_sum) rfl)
  have F__law_number : FunH K mg "_law_number" s__law_number := funH_of X G (c.d.fact 53 (f := .glo "_law_number") rfl) (c.d.def_ 32 (d := d__law_number) rfl)
  have F__law_row : FunH K mg "_law_row" s__law_row := funH_of X G (c.d.fact 54 (f := .glo "_law_row") rfl) (c.d.def_ 33 (d := d__law_row) rfl)
  have F__law_less : FunH K mg "_law_less" s__law_less := funH_of X G (c.d.fact 55 (f := .glo "_law_less") rfl) (c.d.def_ 34 (d := d__law_less) rfl)
  have F__law_first : FunH K mg "_law_first" s__law_first := funH_of X G (c.d.fact 56 (f := .glo "_law_first") rfl) (c.d.def_ 35 (d := d__law_first) rfl)
  have F__law_weight : FunH K mg "_law_weight" s__law_weight := funH_of X G (c.d.fact 57 (f := .glo "_law_weight") rfl) (c.d.def_ 36 (d := d__law_weight) rfl)
  have F__law_moment : FunH K mg "_law_moment" s__law_moment := funH_of X G (c.d.fact 58 (f := .glo "_law_moment") rfl) (c.d.def_ 37 (d := d__law_moment) rfl)
  have F__law_part_text : FunH K mg "_law_part_text" s__law_part_text := funH_of X G (c.d.fact 59 (f := .glo "_law_part_text") rfl) (c.d.def_ 38 (d := d__law_part_text) rfl)
  have F__law_text : FunH K mg "_law_text" s__law_text := funH_of X G (c.d.fact 60 (f := .glo "_law_text") rfl) (c.d.def_ 39 (d := d__law_text) rfl)
  have F__law_one : FunH K mg "_law_one" s__law_one := funH_of X G (c.d.fact 61 (f := .glo "_law_one") rfl) (c.d.def_ 40 (d := d__law_one) rfl)
  obtain ⟨fd, F⟩ := c.d.def_ 41 (d := d_law) rfl
  have b := FunD.bindsA (ps := ["script"]) F fun _ _ _ _ _ _ us hl => match us, hl with | [_], _ => rfl
  have F := fun_of (st := s_law) F
  refine ⟨_, fd, He.glo_ok X G (c.d.fact 62 (f := .glo "law") rfl), fun s u => b s [u] rfl, fun base => ?_⟩
  have h__law_pot := ok__law_pot (P := P) (w := w) (base := base) F__law_pot T 
  have h_is_whole := ok_is_whole (P := P) (w := w) (base := base) F_is_whole T 
  have h_is_weight := ok_is_weight (P := P) (w := w) (base := base) F_is_weight T h_is_whole
  have h_want_weight := ok_want_weight (P := P) (w := w) (base := base) F_want_weight T h_is_weight
  have h_moment_of := ok_moment_of (P := P) (w := w) (base := base) F_moment_of T h_want_weight
  have h_part_text := ok_part_text (P := P) (w := w) (base := base) F_part_text T 
  have h_moment_text := ok_moment_text (P := P) (w := w) (base := base) F_moment_text T h_part_text
  have h_common := ok_common (P := P) (w := w) (base := base) F_common T 
  have h_lowest := ok_lowest (P := P) (w := w) (base := base) F_lowest T h_common
  have h_number_read := ok_number_read (P := P) (w := w) (base := base) F_number_read T 
  have h_read_part := ok_read_part (P := P) (w := w) (base := base) F_read_part T h_lowest h_part_text h_number_read
  have h_plus := ok_plus (P := P) (w := w) (base := base) F_plus T h_lowest
  have h_is_less := ok_is_less (P := P) (w := w) (base := base) F_is_less T 
  have h_greatest_first := ok_greatest_first (P := P) (w := w) (base := base) F_greatest_first T h_is_less
  have h_sums_ahead := ok_sums_ahead (P := P) (w := w) (base := base) F_sums_ahead T h_plus h_greatest_first
  have h_most := ok_most (P := P) (w := w) (base := base) F_most T h_lowest
  have h_fall := ok_fall (P := P) (w := w) (base := base) F_fall T h_is_less h_sums_ahead h_most
  have h_is_within := ok_is_within (P := P) (w := w) (base := base) F_is_within T h_sums_ahead h_fall
  have h_is_part := ok_is_part (P := P) (w := w) (base := base) F_is_part T h_is_whole h_lowest
  have h_is_name := ok_is_name (P := P) (w := w) (base := base) F_is_name T 
  have h_is_seat := ok_is_seat (P := P) (w := w) (base := base) F_is_seat T h_is_part h_is_name
  have h_owing := ok_owing (P := P) (w := w) (base := base) F_owing T 
  have h_persons := ok_persons (P := P) (w := w) (base := base) F_persons T 
  have h_is_moment := ok_is_moment (P := P) (w := w) (base := base) F_is_moment T h_is_within h_is_weight h_is_seat h_owing h_persons
  have h_seat_read := ok_seat_read (P := P) (w := w) (base := base) F_seat_read T h_read_part
  have h_read_moment := ok_read_moment (P := P) (w := w) (base := base) F_read_moment T h_read_part h_is_moment h_moment_text h_seat_read
  have h__law_digit := ok__law_digit (P := P) (w := w) (base := base) F__law_digit T 
  have h__law_name := ok__law_name (P := P) (w := w) (base := base) F__law_name T h__law_digit
  have h__law_names := ok__law_names (P := P) (w := w) (base := base) F__law_names T h__law_name
  have h__law_low := ok__law_low (P := P) (w := w) (base := base) F__law_low T 
  have h__law_plus := ok__law_plus (P := P) (w := w) (base := base) F__law_plus T h__law_low
  have h__law_sum := ok__law_sum (P := P) (w := w) (base := base) F__law_sum T h__law_plus
  have h__law_number := ok__law_number (P := P) (w := w) (base := base) F__law_number T h__law_digit
  have h__law_row := ok__law_row (P := P) (w := w) (base := base) F__law_row T h__law_digit h__law_low h__law_plus h__law_sum h__law_number
  have h__law_less := ok__law_less (P := P) (w := w) (base := base) F__law_less T 
  have h__law_first := ok__law_first (P := P) (w := w) (base := base) F__law_first T h__law_less
  have h__law_weight := ok__law_weight (P := P) (w := w) (base := base) F__law_weight T h__law_sum h__law_first
  have h__law_moment := ok__law_moment (P := P) (w := w) (base := base) F__law_moment T h__law_digit h__law_names h__law_row h__law_weight
  have h__law_part_text := ok__law_part_text (P := P) (w := w) (base := base) F__law_part_text T 
  have h__law_text := ok__law_text (P := P) (w := w) (base := base) F__law_text T h__law_part_text
  have h__law_one := ok__law_one (P := P) (w := w) (base := base) F__law_one T h_moment_of h_moment_text h_read_moment h__law_moment h__law_text
  exact fn_law F T h__law_pot h__law_one
theorem sp_law_of {ds : List D} {G : GH} {Q : QK} {E : XD} (h : sp1 (fun a G Q _ => (∃ ns : List Int, a = .rol (ns.map D.int) ∧ ns.length ≤ 63) ∧ ∀ G', Q (.bl true) G') ds G Q E) : sp_law ds G Q E := by
  obtain ⟨a, rfl, ⟨ns, rfl, hn⟩, hQ⟩ := sp1_ex h
  exact ⟨ns, rfl, hn, hQ _⟩
end Q
set_option maxHeartbeats 0
open PySem PySem.W PySem.Calls PyProof.Rows
theorem PySem.Challenge.cw_whoserves_k91_texts_there_and_back_holds : PySem.Challenge.rw_whoserves_k91_texts_there_and_back.Holds := by
  w_on; o_law
  refine HandSHeadRun.head_any (r := OpenLaw.row PySem.Challenge.rw_whoserves_k91_texts_there_and_back) (q := view (OpenLaw.row PySem.Challenge.rw_whoserves_k91_texts_there_and_back).prog [60]) (H := Q.hkl) (ob := Q.obl) (M := 4000) (loose := Q.nmsl) (d := HandSHeadRun.topDef (OpenLaw.row PySem.Challenge.rw_whoserves_k91_texts_there_and_back).prog 60) (kwd := []) Q.obl_eq
    (by kernel_rfl) (fun s => by kernel_rfl) Q.runl (by kernel_rfl) (by kernel_rfl) (by kernel_rfl) (by rfl) (by first | assumption | decide +kernel) (by decide +kernel) ⟨rfl, rfl, rfl, rfl, rfl, by decide +kernel⟩ ?hw ?hc
  case hw => w_witness2
  case hc =>
    refine Q.walk_g (l := PySem.Challenge.rw_whoserves_k91_texts_there_and_back) (n := 63) (k := 10) (x := "script") rfl (by decide) (by kernel_rfl) ⟨rfl, by decide, by decide⟩ ?F
    intro w mg h Y G
    obtain ⟨K, KX, c⟩ := Y
    obtain ⟨f, fd, hm, hb, hF⟩ := Q.law_end (P := (PySem.Challenge.rw_whoserves_k91_texts_there_and_back).prog) (w := w) KX G c
    refine ⟨K, KX, f, fd, ?_, hb, fun base _ _ => (hF base).imp ?_⟩
    · have e : (HandSHeadRun.topDef (OpenLaw.row PySem.Challenge.rw_whoserves_k91_texts_there_and_back).prog 60).name = ("law" : PySem.Str) := by kernel_rfl
      rw [e]; exact hm
    · rintro vs H R E ⟨ds, G', Qd, Ed, r, sm, hs, a, b⟩
      exact ⟨ds, G', Qd, Ed, r, sm, Q.sp_law_of hs, a, b⟩
