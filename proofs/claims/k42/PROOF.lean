import PyProof.Rows.All
import Wide.All
import OpenK.AllK
import Wide.FinOn
import HandS.ForMost
import HandS.Exc
import HandS.TupAny
import HandS.TupMul
import HandS.Deep
import HandS.IsInst
import HandS.TupLen
import HandS.Conv
import HandS.ForExc
import HandS.CallSlots
import HandS.Walk
import HandS.Zip
import KE.GoesEnum
import KE.KUnpackStar
import HandS.DictTup
import KE.SortData
import KE.DataMinMax
import KE.KDictSum
import HandS.SortKw
import HandS.DictComp
import HandS.HeadHook4
import HandS.HeadEnd
import HandS.Head2
import KE.DataFind
import HandS.MakeKwOnly
import HandS.MakeKw
import HandS.TryOnly
import KE.KDictKeyed
import PySem.Challenge.RW_linesofreturn_k42_known_towns
set_option Elab.async false
set_option linter.all false
set_option maxRecDepth 1000000
set_option maxHeartbeats 0
/-! L3A: values as data, objects by numbers; how they lie in the abstract heap; steps. -/
namespace L3
open PySem PySem.Spec L2

/-- a value: tuples are values, objects are numbers, rol a list that nobody changes -/
inductive D where
  | non | bl (b : Bool) | int (i : Int) | str (x : Str) | tup (ds : List D) | obj (n : Nat) | rol (ds : List D)

mutual
def D.eqb : D → D → Bool
  | .non, .non => true
  | .bl a, .bl b => decide (a = b)
  | .int a, .int b => decide (a = b)
  | .str a, .str b => decide (a = b)
  | .tup a, .tup b => D.eqbs a b
  | .obj a, .obj b => decide (a = b)
  | .rol a, .rol b => D.eqbs a b
  | _, _ => false
def D.eqbs : List D → List D → Bool
  | [], [] => true
  | a :: as, b :: bs => D.eqb a b && D.eqbs as bs
  | _, _ => false
end
mutual
theorem D.eqb_iff : ∀ (a b : D), D.eqb a b = true ↔ a = b
  | .non, b => by cases b <;> simp [D.eqb]
  | .bl a, b => by cases b <;> simp [D.eqb]
  | .int a, b => by cases b <;> simp [D.eqb]
  | .str a, b => by cases b <;> simp [D.eqb]
  | .tup a, b => by
    cases b with
    | tup b => simp [D.eqb, D.eqbs_iff a b]
    | _ => simp [D.eqb]
  | .obj a, b => by cases b <;> simp [D.eqb]
  | .rol a, b => by
    cases b with
    | rol b => simp [D.eqb, D.eqbs_iff a b]
    | _ => simp [D.eqb]
theorem D.eqbs_iff : ∀ (a b : List D), D.eqbs a b = true ↔ a = b
  | [], [] => by simp [D.eqbs]
  | [], _ :: _ => by simp [D.eqbs]
  | _ :: _, [] => by simp [D.eqbs]
  | a :: as, b :: bs => by simp [D.eqbs, D.eqb_iff a b, D.eqbs_iff as bs]
end
instance : DecidableEq D := fun a b => decidable_of_iff _ (D.eqb_iff a b)

/-- an object; frz: a loop walks it -/
inductive O where
  | lst (ds : List D)
  | dct (t : Bool) (kvs : List (D × D))
  | ins (c : Str) (fs : List (Str × D))
  | frz (o : O)
abbrev GH := List O

/-- a run's end: a value, an exception of a class of the text with its fields, or no word -/
inductive R (α : Type) where
  | ok (a : α) (g : GH)
  | ex (c : Str) (fs : List (Str × D)) (g : GH)
  | bad

/-- a tuple to be read; one with items is tracked -/
def TpT (K : PySem.W.Frag) (H : Hp) (a : Addr) (xs : List V) : Prop := SqT K H a xs ∧ (xs ≠ [] → H a = some (.tup xs))
theorem TpT.of {K : PySem.W.Frag} {H : Hp} {a : Addr} {xs : List V} (h : H a = some (.tup xs)) : TpT K H a xs := ⟨SqT.of h, fun _ => h⟩
/-- whole numbers alone -/
def AllInt (xs : List V) : Prop := ∀ x ∈ xs, ∃ i, x = .int i
mutual
inductive Den (K : PySem.W.Frag) (ι : List Addr) (H : Hp) : V → D → Prop
  | non : Den K ι H .non .non
  | bl (b : Bool) : Den K ι H (.bl b) (.bl b)
  | int (i : Int) : Den K ι H (.int i) (.int i)
  | str (x : Str) : Den K ι H (.str x) (.str x)
  | tup {a : Addr} {xs : List V} {ds : List D} : TpT K H a xs → DenAll K ι H xs ds → Den K ι H (.ref a) (.tup ds)
  | obj {a : Addr} {n : Nat} : ι[n]? = some a → Den K ι H (.ref a) (.obj n)
  | rol {a : Addr} {xs : List V} {ds : List D} : ((∃ o, H a = some (.frz o (.lst xs)) ∧ AllInt xs) ∨ ∃ (o : Obj) (its : Array Value) (n : Nat), K.lookup a = some o ∧ o.cls = .type "list" ∧ o.dict = none ∧ o.data = .seq its n ∧ its.size ≤ sizeLine ∧ Vals xs its.toList) →
      DenAll K ι H xs ds → Den K ι H (.ref a) (.rol ds)
inductive DenAll (K : PySem.W.Frag) (ι : List Addr) (H : Hp) : List V → List D → Prop
  | nil : DenAll K ι H [] []
  | cons {v : V} {vs : List V} {d : D} {ds : List D} : Den K ι H v d → DenAll K ι H vs ds → DenAll K ι H (v :: vs) (d :: ds)
end
/-- a list that stands still -/
def SqP (K : PySem.W.Frag) (H : Hp) (a : Addr) (xs : List V) : Prop :=
  (∃ o, H a = some (.frz o (.lst xs)) ∧ AllInt xs) ∨ ∃ (o : Obj) (its : Array Value) (n : Nat), K.lookup a = some o ∧ o.cls = .type "list" ∧ o.dict = none ∧ o.data = .seq its n ∧ its.size ≤ sizeLine ∧ Vals xs its.toList
theorem SqP.sq {K : PySem.W.Frag} {H : Hp} {a : Addr} {xs : List V} (h : SqP K H a xs) : SqL K H a xs := by
  rcases h with ⟨o, h, _⟩ | h
  · exact .inl (.inr ⟨o, h⟩)
  · exact .inr h
section
variable {K : PySem.W.Frag} {ι ι' : List Addr} {H H' : Hp}
mutual
theorem Den.mono (hι : ∀ (n : Nat) a, ι[n]? = some a → ι'[n]? = some a) (hT : ∀ a xs, TpT K H a xs → TpT K H' a xs) (hP : ∀ a xs, SqP K H a xs → SqP K H' a xs) :
    ∀ (d : D) (v : V), Den K ι H v d → Den K ι' H' v d
  | .non, _, h => by cases h; exact .non
  | .bl b, _, h => by cases h; exact .bl b
  | .int b, _, h => by cases h; exact .int b
  | .str b, _, h => by cases h; exact .str b
  | .tup ds, _, h => by
    cases h with
    | tup a b => exact .tup (hT _ _ a) (DenAll.mono hι hT hP ds _ b)
  | .obj n, _, h => by
    cases h with
    | obj a => exact .obj (hι _ _ a)
  | .rol ds, _, h => by
    cases h with
    | rol a b => exact .rol (hP _ _ a) (DenAll.mono hι hT hP ds _ b)
theorem DenAll.mono (hι : ∀ (n : Nat) a, ι[n]? = some a → ι'[n]? = some a) (hT : ∀ a xs, TpT K H a xs → TpT K H' a xs) (hP : ∀ a xs, SqP K H a xs → SqP K H' a xs) :
    ∀ (ds : List D) (vs : List V), DenAll K ι H vs ds → DenAll K ι' H' vs ds
  | [], _, h => by cases h; exact .nil
  | d :: ds, _, h => by
    cases h with
    | cons a b => exact .cons (Den.mono hι hT hP d _ a) (DenAll.mono hι hT hP ds _ b)
end
theorem DenAll.length : ∀ {vs : List V} {ds : List D}, DenAll K ι H vs ds → vs.length = ds.length
  | [], ds, h => by cases h; rfl
  | v :: vs, _, h => by
    cases h with
    | cons a b => simp [DenAll.length b]
theorem DenAll.append : ∀ {vs ws : List V} {ds es : List D}, DenAll K ι H vs ds → DenAll K ι H ws es → DenAll K ι H (vs ++ ws) (ds ++ es)
  | [], _, _, _, h, k => by cases h; exact k
  | v :: vs, _, _, _, h, k => by
    cases h with
    | cons a b => exact .cons a (DenAll.append b k)
theorem DenAll.get : ∀ {vs : List V} {ds : List D} {i : Nat} {d : D}, DenAll K ι H vs ds → ds[i]? = some d → ∃ v, vs[i]? = some v ∧ Den K ι H v d
  | [], _, _, _, h, e => by cases h; simp at e
  | v :: vs, _, 0, _, h, e => by
    cases h with
    | cons a b => simp at e; subst e; exact ⟨v, rfl, a⟩
  | v :: vs, _, i + 1, _, h, e => by
    cases h with
    | cons a b =>
      obtain ⟨w, h1, h2⟩ := DenAll.get (i := i) b (by simpa using e)
      exact ⟨w, by simpa using h1, h2⟩
theorem DenAll.getV : ∀ {vs : List V} {ds : List D} {i : Nat} {v : V}, DenAll K ι H vs ds → vs[i]? = some v → ∃ d, ds[i]? = some d ∧ Den K ι H v d
  | [], _, _, _, h, e => by simp at e
  | v :: vs, _, 0, _, h, e => by
    cases h with
    | cons a b => simp at e; subst e; exact ⟨_, rfl, a⟩
  | v :: vs, _, i + 1, _, h, e => by
    cases h with
    | cons a b =>
      obtain ⟨w, h1, h2⟩ := DenAll.getV (i := i) b (by simpa using e)
      exact ⟨w, by simpa using h1, h2⟩
theorem DenAll.set : ∀ {vs : List V} {ds : List D} (i : Nat) {v : V} {d : D}, DenAll K ι H vs ds → Den K ι H v d → DenAll K ι H (vs.set i v) (ds.set i d)
  | [], _, _, _, _, h, k => by cases h; exact .nil
  | v :: vs, _, 0, _, _, h, k => by
    cases h with
    | cons a b => exact .cons k b
  | v :: vs, _, i + 1, _, _, h, k => by
    cases h with
    | cons a b => exact .cons a (DenAll.set i b k)
theorem DenAll.take : ∀ {vs : List V} {ds : List D} (n : Nat), DenAll K ι H vs ds → DenAll K ι H (vs.take n) (ds.take n)
  | _, _, 0, _ => .nil
  | [], _, n + 1, h => by cases h; exact .nil
  | v :: vs, _, n + 1, h => by
    cases h with
    | cons a b => exact .cons a (DenAll.take n b)
theorem DenAll.drop : ∀ {vs : List V} {ds : List D} (n : Nat), DenAll K ι H vs ds → DenAll K ι H (vs.drop n) (ds.drop n)
  | _, _, 0, h => h
  | [], _, n + 1, h => by cases h; exact .nil
  | v :: vs, _, n + 1, h => by
    cases h with
    | cons a b => exact DenAll.drop n b
theorem DenAll.eraseIdx : ∀ {vs : List V} {ds : List D} (n : Nat), DenAll K ι H vs ds → DenAll K ι H (vs.eraseIdx n) (ds.eraseIdx n)
  | [], _, _, h => by cases h; exact .nil
  | v :: vs, _, 0, h => by
    cases h with
    | cons a b => exact b
  | v :: vs, _, n + 1, h => by
    cases h with
    | cons a b => exact .cons a (DenAll.eraseIdx n b)
theorem DenAll.nil_iff {vs : List V} {ds : List D} (h : DenAll K ι H vs ds) : vs = [] ↔ ds = [] := by
  cases h <;> simp
end

/-- a key as a value -/
def kD : Key → D
  | .inl i => .int i
  | .inr x => .str x
/-- pairs of names or keys with values -/
def FldR (K : PySem.W.Frag) (ι : List Addr) (H : Hp) : List (Str × V) → List (Str × D) → Prop := Paired fun p q => p.1 = q.1 ∧ Den K ι H p.2 q.2
/-- t: the keys are tuples -/
def DctR (K : PySem.W.Frag) (ι : List Addr) (H : Hp) (u : HO) (t : Bool) (kvs : List (D × D)) : Prop :=
  (t = false ∧ ∃ ps, u = .dK ps ∧ Paired (fun (p : Key × V) (q : D × D) => q.1 = kD p.1 ∧ Den K ι H p.2 q.2) ps kvs) ∨
  (t = true ∧ ∃ ps, u = .dT ps ∧ Paired (fun (p : List Key × V) (q : D × D) => q.1 = .tup (p.1.map kD) ∧ Den K ι H p.2 q.2) ps kvs)
def ObjR (mg : Str → Option Value) (K : PySem.W.Frag) (ι : List Addr) (H : Hp) (a : Addr) : O → Prop
  | .lst ds => ∃ xs, H a = some (.lst xs) ∧ DenAll K ι H xs ds
  | .dct t kvs => ∃ u, H a = some u ∧ DctR K ι H u t kvs
  | .ins c fs => ∃ C dx ps, H a = some (.ins C dx ps) ∧ mg c = some (.ref C) ∧ FldR K ι H ps fs
  | .frz (.lst ds) => ∃ ob xs, H a = some (.frz ob (.lst xs)) ∧ DenAll K ι H xs ds ∧ ¬ AllInt xs
  | .frz (.dct t kvs) => ∃ ob u, H a = some (.frz ob u) ∧ DctR K ι H u t kvs
  | .frz _ => False
structure Rel (mg : Str → Option Value) (K : PySem.W.Frag) (ι : List Addr) (g : GH) (H : Hp) : Prop where
  len : ι.length = g.length
  nd : ι.Nodup
  at_ : ∀ (n : Nat) o a, g[n]? = some o → ι[n]? = some a → ObjR mg K ι H a o

section
variable {mg : Str → Option Value} {K : PySem.W.Frag} {ι ι' : List Addr} {g g' : GH} {H H' : Hp}
theorem paired_imp {α β : Type} {F G : α → β → Prop} (f : ∀ a b, F a b → G a b) : ∀ {l₁ : List α} {l₂ : List β}, Paired F l₁ l₂ → Paired G l₁ l₂
  | _, _, .nil => .nil
  | _, _, .cons r t => .cons (f _ _ r) (paired_imp f t)
theorem DctR.mono {u : HO} {t : Bool} {kvs : List (D × D)} (h : DctR K ι H u t kvs) (hι : ∀ (n : Nat) a, ι[n]? = some a → ι'[n]? = some a) (hT : ∀ a xs, TpT K H a xs → TpT K H' a xs) (hP : ∀ a xs, SqP K H a xs → SqP K H' a xs) : DctR K ι' H' u t kvs := by
  rcases h with ⟨z, ps, e, r⟩ | ⟨z, ps, e, r⟩
  · exact .inl ⟨z, ps, e, paired_imp (fun p q h => ⟨h.1, Den.mono hι hT hP _ _ h.2⟩) r⟩
  · exact .inr ⟨z, ps, e, paired_imp (fun p q h => ⟨h.1, Den.mono hι hT hP _ _ h.2⟩) r⟩
theorem FldR.mono {ps : List (Str × V)} {fs : List (Str × D)} (h : FldR K ι H ps fs) (hι : ∀ (n : Nat) a, ι[n]? = some a → ι'[n]? = some a) (hT : ∀ a xs, TpT K H a xs → TpT K H' a xs) (hP : ∀ a xs, SqP K H a xs → SqP K H' a xs) : FldR K ι' H' ps fs :=
  paired_imp (fun p q h => ⟨h.1, Den.mono hι hT hP _ _ h.2⟩) h
/-- an object that stays as it is -/
theorem ObjR.mono {a : Addr} {o : O} (h : ObjR mg K ι H a o) (hι : ∀ (n : Nat) a, ι[n]? = some a → ι'[n]? = some a) (hT : ∀ a xs, TpT K H a xs → TpT K H' a xs) (hP : ∀ a xs, SqP K H a xs → SqP K H' a xs)
    (ha : ∀ u, H a = some u → H' a = some u) : ObjR mg K ι' H' a o := by
  cases o with
  | lst ds => obtain ⟨xs, e, r⟩ := h; exact ⟨xs, ha _ e, DenAll.mono hι hT hP _ _ r⟩
  | dct t kvs => obtain ⟨u, e, r⟩ := h; exact ⟨u, ha _ e, r.mono hι hT hP⟩
  | ins c fs => obtain ⟨C, dx, ps, e, m, r⟩ := h; exact ⟨C, dx, ps, ha _ e, m, r.mono hι hT hP⟩
  | frz o =>
    cases o with
    | lst ds => obtain ⟨ob, xs, e, r, n⟩ := h; exact ⟨ob, xs, ha _ e, DenAll.mono hι hT hP _ _ r, n⟩
    | dct t kvs => obtain ⟨ob, u, e, r⟩ := h; exact ⟨ob, u, ha _ e, r.mono hι hT hP⟩
    | ins c fs => exact h.elim
    | frz o => exact h.elim
/-- what stands at an object's place: no tuple, no list of others' -/
theorem ObjR.there {a : Addr} {o : O} (h : ObjR mg K ι H a o) : ∃ u, H a = some u ∧ (∀ xs, u ≠ .tup xs) ∧ (∀ ob xs, u ≠ .frz ob (.tup xs)) ∧ (∀ ob xs, AllInt xs → u ≠ .frz ob (.lst xs)) ∧ ∀ x, u ≠ .own x := by
  have dd : ∀ {u : HO} {t : Bool} {kvs : List (D × D)}, DctR K ι H u t kvs → (∃ ps, u = .dK ps) ∨ ∃ ps, u = .dT ps := fun {u t kvs} h => by
    rcases h with ⟨_, ps, e, _⟩ | ⟨_, ps, e, _⟩
    · exact .inl ⟨ps, e⟩
    · exact .inr ⟨ps, e⟩
  cases o with
  | lst ds => obtain ⟨xs, e, r⟩ := h; exact ⟨_, e, by simp, by simp, by simp, by simp⟩
  | dct t kvs =>
    obtain ⟨u, e, r⟩ := h
    rcases dd r with ⟨ps, rfl⟩ | ⟨ps, rfl⟩ <;> exact ⟨_, e, by simp, by simp, by simp, by simp⟩
  | ins c fs => obtain ⟨C, dx, ps, e, m, r⟩ := h; exact ⟨_, e, by simp, by simp, by simp, by simp⟩
  | frz o =>
    cases o with
    | lst ds =>
      obtain ⟨ob, xs, e, r, n⟩ := h
      refine ⟨_, e, by simp, by simp, fun ob' ys ai z => ?_, by simp⟩
      cases z
      exact n ai
    | dct t kvs =>
      obtain ⟨ob, u, e, r⟩ := h
      rcases dd r with ⟨ps, rfl⟩ | ⟨ps, rfl⟩ <;> exact ⟨_, e, by simp, by simp, by simp, by simp⟩
    | ins c fs => exact h.elim
    | frz o => exact h.elim

/-- from a heap to a later one -/
structure Step (mg : Str → Option Value) (K : PySem.W.Frag) (ι : List Addr) (H : Hp) (ι' : List Addr) (g' : GH) (H' : Hp) : Prop where
  pre : ∃ κ, ι' = ι ++ κ
  rel : Rel mg K ι' g' H'
  frm : ∀ b o, H b = some o → b ∉ ι → H' b = some o
  new : ∀ b ∈ ι', b ∉ ι → H b = none
  tup : ∀ a xs, TpT K H a xs → TpT K H' a xs
  rol : ∀ a xs, SqP K H a xs → SqP K H' a xs
  frz : ∀ a o u, H a = some (.frz o u) → H' a = some (.frz o u)
theorem Step.ix (t : Step mg K ι H ι' g' H') : ∀ (n : Nat) a, ι[n]? = some a → ι'[n]? = some a := fun n a e => by
  obtain ⟨κ, rfl⟩ := t.pre
  have hn : n < ι.length := (List.getElem?_eq_some_iff.mp e).1
  rw [List.getElem?_append_left hn]
  exact e
theorem Step.den (t : Step mg K ι H ι' g' H') {v : V} {d : D} (h : Den K ι H v d) : Den K ι' H' v d := Den.mono t.ix t.tup t.rol d v h
theorem Step.denAll (t : Step mg K ι H ι' g' H') {v : List V} {d : List D} (h : DenAll K ι H v d) : DenAll K ι' H' v d := DenAll.mono t.ix t.tup t.rol d v h
theorem Step.refl (r : Rel mg K ι g H) : Step mg K ι H ι g H := ⟨⟨[], by simp⟩, r, fun _ _ h _ => h, fun b h k => absurd h k, fun _ _ h => h, fun _ _ h => h, fun _ _ _ h => h⟩
theorem Step.trans {ι₂ : List Addr} {g₂ : GH} {H₂ : Hp} (t : Step mg K ι H ι' g' H') (u : Step mg K ι' H' ι₂ g₂ H₂) : Step mg K ι H ι₂ g₂ H₂ := by
  obtain ⟨κ, e1⟩ := t.pre
  obtain ⟨κ', e2⟩ := u.pre
  refine ⟨⟨κ ++ κ', by rw [e2, e1, List.append_assoc]⟩, u.rel, fun b o h n => ?_, fun b hb n => ?_, fun a xs h => u.tup a xs (t.tup a xs h), fun a xs h => u.rol a xs (t.rol a xs h), fun a o x h => u.frz a o x (t.frz a o x h)⟩
  · by_cases hb : b ∈ ι'
    · have := t.new b hb n
      rw [h] at this; cases this
    · exact u.frm b o (t.frm b o h n) hb
  · by_cases hb' : b ∈ ι'
    · exact t.new b hb' n
    · have q := u.new b hb hb'
      cases e : H b with
      | none => rfl
      | some o => rw [t.frm b o e n] at q; cases q
theorem Rel.place (r : Rel mg K ι g H) {n : Nat} {o : O} (h : g[n]? = some o) : ∃ a, ι[n]? = some a ∧ ObjR mg K ι H a o := by
  have hn : n < ι.length := by rw [r.len]; exact (List.getElem?_eq_some_iff.mp h).1
  have e : ι[n]? = some ι[n] := List.getElem?_eq_getElem hn
  exact ⟨_, e, r.at_ n o _ h e⟩
theorem Rel.obj (r : Rel mg K ι g H) {n : Nat} {o : O} {a : Addr} (h : g[n]? = some o) (e : ι[n]? = some a) : ObjR mg K ι H a o := r.at_ n o a h e
theorem Rel.mem (r : Rel mg K ι g H) {a : Addr} (h : a ∈ ι) : ∃ (n : Nat) (o : O), g[n]? = some o ∧ ι[n]? = some a ∧ ObjR mg K ι H a o := by
  obtain ⟨n, hn, e⟩ := List.mem_iff_getElem.mp h
  have hg : n < g.length := by rw [← r.len]; exact hn
  have e' : ι[n]? = some a := by rw [List.getElem?_eq_getElem hn, e]
  exact ⟨n, g[n], List.getElem?_eq_getElem hg, e', r.at_ n _ a (List.getElem?_eq_getElem hg) e'⟩
theorem Rel.there (r : Rel mg K ι g H) {a : Addr} (h : a ∈ ι) : ∃ u, H a = some u ∧ (∀ xs, u ≠ .tup xs) ∧ (∀ ob xs, u ≠ .frz ob (.tup xs)) ∧ (∀ ob xs, AllInt xs → u ≠ .frz ob (.lst xs)) ∧ ∀ x, u ≠ .own x := by
  obtain ⟨n, o, _, _, q⟩ := r.mem h
  exact q.there
/-- an untracked change keeps what is known of values, if what stood beside the objects stands -/
theorem Rel.tup_of (r : Rel mg K ι g H) (frm : ∀ b o, H b = some o → b ∉ ι → H' b = some o) : ∀ a xs, TpT K H a xs → TpT K H' a xs := fun a xs h => by
  refine ⟨?_, fun ne => frm _ _ (h.2 ne) fun m => by
    obtain ⟨u, e, q, _⟩ := r.there m
    rw [h.2 ne] at e; cases e; exact q _ rfl⟩
  replace h := h.1
  rcases h with (h | ⟨o, h⟩) | h
  · refine .inl (.inl (frm _ _ h fun m => ?_))
    obtain ⟨u, e, q, _⟩ := r.there m
    rw [h] at e; cases e; exact q _ rfl
  · refine .inl (.inr ⟨o, frm _ _ h fun m => ?_⟩)
    obtain ⟨u, e, _, q, _⟩ := r.there m
    rw [h] at e; cases e; exact q _ _ rfl
  · exact .inr h
theorem Rel.rol_of (r : Rel mg K ι g H) (frm : ∀ b o, H b = some o → b ∉ ι → H' b = some o) : ∀ a xs, SqP K H a xs → SqP K H' a xs := fun a xs h => by
  rcases h with ⟨o, h, ai⟩ | h
  · refine .inl ⟨o, frm _ _ h fun m => ?_, ai⟩
    obtain ⟨u, e, _, _, q, _⟩ := r.there m
    rw [h] at e; cases e; exact q _ _ ai rfl
  · exact .inr h
/-- a new thing beside the objects -/
theorem Step.side (r : Rel mg K ι g H) {p : Addr} {u : HO} (hp : H p = none) : Step mg K ι H ι g (upd H p u) := by
  have frm : ∀ b o, H b = some o → upd H p u b = some o := fun b o e => by rw [upd_ne (ne_of_none e hp)]; exact e
  have hT := r.tup_of (H' := upd H p u) fun b o e _ => frm b o e
  have hP := r.rol_of (H' := upd H p u) fun b o e _ => frm b o e
  exact ⟨⟨[], by simp⟩, ⟨r.len, r.nd, fun n o a h e => (r.at_ n o a h e).mono (fun _ _ h => h) hT hP fun u e => frm _ _ e⟩, fun b o e _ => frm b o e, fun b h k => absurd h k, hT, hP, fun b o x e => frm b _ e⟩
/-- a new object, laid behind the others -/
theorem Step.lay (r : Rel mg K ι g H) {p : Addr} {u : HO} {o : O} (hp : H p = none) (new : ObjR mg K (ι ++ [p]) (upd H p u) p o) : Step mg K ι H (ι ++ [p]) (g ++ [o]) (upd H p u) := by
  have frm : ∀ b o, H b = some o → upd H p u b = some o := fun b o e => by rw [upd_ne (ne_of_none e hp)]; exact e
  have hT := r.tup_of (H' := upd H p u) fun b o e _ => frm b o e
  have hP := r.rol_of (H' := upd H p u) fun b o e _ => frm b o e
  have hn : p ∉ ι := fun m => by
    obtain ⟨u, e, _⟩ := r.there m
    rw [hp] at e; cases e
  have hix : ∀ (n : Nat) a, ι[n]? = some a → (ι ++ [p])[n]? = some a := fun n a e => by
    rw [List.getElem?_append_left (List.getElem?_eq_some_iff.mp e).1]; exact e
  refine ⟨⟨[p], rfl⟩, ⟨by simp [r.len], ?_, fun n o' a h e => ?_⟩, fun b o e _ => frm b o e, fun b h k => ?_, hT, hP, fun b o x e => frm b _ e⟩
  · exact List.nodup_append.mpr ⟨r.nd, by simp, fun a ha b hb => by simp at hb; subst hb; exact fun z => hn (z ▸ ha)⟩
  · by_cases hlt : n < ι.length
    · rw [List.getElem?_append_left hlt] at e
      rw [List.getElem?_append_left (by rw [← r.len]; exact hlt)] at h
      exact (r.at_ n o' a h e).mono hix hT hP fun u e => frm _ _ e
    · have hn' : n = ι.length := by
        have := (List.getElem?_eq_some_iff.mp e).1
        simp at this; omega
      subst hn'
      rw [List.getElem?_append_right (Nat.le_refl _)] at e
      rw [r.len, List.getElem?_append_right (Nat.le_refl _)] at h
      simp at e h
      subst e h
      exact new
  · rcases List.mem_append.mp h with h | h
    · exact absurd h k
    · simp at h; subst h; exact hp
theorem nodup_at {l : List Addr} (nd : l.Nodup) {i j : Nat} (hi : i < l.length) (hj : j < l.length) (e : l[i] = l[j]) : i = j := by
  rcases Nat.lt_trichotomy i j with h | h | h
  · exact absurd e ((List.pairwise_iff_getElem.mp nd) i j hi hj h)
  · exact h
  · exact absurd e.symm ((List.pairwise_iff_getElem.mp nd) j i hj hi h)
/-- an object is changed -/
theorem Step.write (r : Rel mg K ι g H) {n : Nat} {a : Addr} {u : HO} {o : O} (ha : ι[n]? = some a) (new : ∀ H', (∀ a xs, TpT K H a xs → TpT K H' a xs) → (∀ a xs, SqP K H a xs → SqP K H' a xs) → H' a = some u → ObjR mg K ι H' a o) (hz : ∀ ob x, H a ≠ some (.frz ob x)) :
    Step mg K ι H ι (g.set n o) (upd H a u) := by
  have hm : a ∈ ι := List.mem_of_getElem? ha
  have frm : ∀ b o, H b = some o → b ∉ ι → upd H a u b = some o := fun b o e n => by rw [upd_ne (fun z => n (by rw [z]; exact hm))]; exact e
  have hT := r.tup_of (H' := upd H a u) frm
  have hP := r.rol_of (H' := upd H a u) frm
  refine ⟨⟨[], by simp⟩, ⟨by simp [r.len], r.nd, fun m o' b h e => ?_⟩, frm, fun b h k => absurd h k, hT, hP, fun b ob x e => by rw [upd_ne fun z => hz ob x (by rw [← z]; exact e)]; exact e⟩
  by_cases hmn : m = n
  · subst hmn
    rw [ha] at e; cases e
    have hlt : m < g.length := by rw [← r.len]; exact (List.getElem?_eq_some_iff.mp ha).1
    rw [List.getElem?_set_self hlt] at h
    cases h
    exact new _ hT hP upd_same
  · rw [List.getElem?_set_ne (Ne.symm hmn)] at h
    have hab : b ≠ a := fun z => by
      subst z
      have h1 := (List.getElem?_eq_some_iff.mp e)
      have h2 := (List.getElem?_eq_some_iff.mp ha)
      obtain ⟨h1, h1'⟩ := h1
      obtain ⟨h2, h2'⟩ := h2
      exact hmn (nodup_at r.nd h1 h2 (h1'.trans h2'.symm))
    exact (r.at_ m o' b h e).mono (fun _ _ h => h) hT hP fun u e => by rw [upd_ne hab]; exact e
end

/-- the names' values -/
def EnvR (K : PySem.W.Frag) (ι : List Addr) (H : Hp) (σ : St) (ρ : List (Option D)) : Prop :=
  σ.length = ρ.length ∧ ∀ (i : Nat) d, ρ[i]? = some (some d) → ∃ v, σ[i]? = some (some v) ∧ Den K ι H v d
section
variable {mg : Str → Option Value} {K : PySem.W.Frag} {ι ι' : List Addr} {g g' : GH} {H H' : Hp} {σ : St} {ρ : List (Option D)}
theorem EnvR.step (h : EnvR K ι H σ ρ) (t : Step mg K ι H ι' g' H') : EnvR K ι' H' σ ρ := ⟨h.1, fun i d e => by
  obtain ⟨v, h1, h2⟩ := h.2 i d e
  exact ⟨v, h1, t.den h2⟩⟩
theorem EnvR.set (h : EnvR K ι H σ ρ) (i : Nat) {v : V} {d : D} (hd : Den K ι H v d) : EnvR K ι H (σ.set i (some v)) (ρ.set i (some d)) := ⟨by simp [h.1], fun j e hj => by
  by_cases hij : i = j
  · subst hij
    by_cases hl : i < ρ.length
    · rw [List.getElem?_set_self hl] at hj
      cases hj
      exact ⟨v, List.getElem?_set_self (by rw [h.1]; exact hl), hd⟩
    · rw [List.getElem?_eq_none (by simpa using hl)] at hj; cases hj
  · rw [List.getElem?_set_ne hij] at hj
    obtain ⟨w, h1, h2⟩ := h.2 j e hj
    exact ⟨w, by rw [List.getElem?_set_ne hij]; exact h1, h2⟩⟩
def wipeD (ρ : List (Option D)) : List Nat → List (Option D)
  | [] => ρ
  | v :: vs => (wipeD ρ vs).set v none
theorem EnvR.unset (h : EnvR K ι H σ ρ) (i : Nat) : EnvR K ι H (σ.set i none) (ρ.set i none) := ⟨by simp [h.1], fun j e hj => by
  by_cases hij : i = j
  · subst hij
    by_cases hl : i < ρ.length
    · rw [List.getElem?_set_self hl] at hj
      cases hj
    · rw [List.getElem?_eq_none (by simpa using hl)] at hj; cases hj
  · rw [List.getElem?_set_ne hij] at hj
    obtain ⟨w, h1, h2⟩ := h.2 j e hj
    exact ⟨w, by rw [List.getElem?_set_ne hij]; exact h1, h2⟩⟩
theorem EnvR.wipe (h : EnvR K ι H σ ρ) : ∀ vs : List Nat, EnvR K ι H (L2.wipe σ vs) (wipeD ρ vs)
  | [] => h
  | v :: vs => (EnvR.wipe h vs).unset v
end
end L3

/-! L3B: runs as functions; expressions. -/
namespace L3
open PySem PySem.Spec L2

abbrev Rho := List (Option D)
abbrev EM := Rho → GH → R D
abbrev AM := Rho → GH → R (List D)
def R.bind {α β : Type} (r : R α) (f : α → GH → R β) : R β := match r with
  | .ok a g => f a g
  | .ex c fs g => .ex c fs g
  | .bad => .bad
@[simp] theorem R.bind_ok {α β : Type} (a : α) (g : GH) (f : α → GH → R β) : (R.ok a g).bind f = f a g := rfl
@[simp] theorem R.bind_ex {α β : Type} (c : Str) (fs : List (Str × D)) (g : GH) (f : α → GH → R β) : (R.ex c fs g : R α).bind f = .ex c fs g := rfl
@[simp] theorem R.bind_bad {α β : Type} (f : α → GH → R β) : (R.bad : R α).bind f = .bad := rfl
/-- an operation without exceptions -/
def lift {α : Type} : Option (α × GH) → R α
  | some (a, g) => .ok a g
  | none => .bad
@[simp] theorem lift_some {α : Type} (a : α) (g : GH) : lift (some (a, g)) = .ok a g := rfl
@[simp] theorem lift_none {α : Type} : lift (none : Option (α × GH)) = .bad := rfl

/-- an exception of a class of the text, its fields -/
def ExcR (mg : Str → Option Value) (K : PySem.W.Frag) (ι : List Addr) (H : Hp) (cls : Value) (dx : Option Addr) (c : Str) (fs : List (Str × D)) : Prop :=
  ∃ C, mg c = some (.ref C) ∧ cls = .ref C ∧ ((fs = [] ∧ dx = none) ∨ ∃ a ps, dx = some a ∧ H a = some (.xd ps) ∧ FldR K ι H ps fs)

section
variable (mg : Str → Option Value) (K : PySem.W.Frag)
/-- what a run promises of what follows it -/
def RunX {α β : Type} (Dn : List Addr → Hp → β → α → Prop) (W : XK) (ι : List Addr) (H : Hp) (Q : β → Hp → Prop) : R α → Prop
  | .ok d g' => ∀ ι' H' v, Step mg K ι H ι' g' H' → Dn ι' H' v d → Q v H'
  | .ex c fs g' => ∀ ι' H' cls dx, Step mg K ι H ι' g' H' → ExcR mg K ι' H' cls dx c fs → W cls dx H'
  | .bad => False
abbrev RunE (W : XK) (ι : List Addr) (H : Hp) (Q : V → Hp → Prop) (r : R D) : Prop := RunX mg K (fun ι H v d => Den K ι H v d) W ι H Q r
abbrev RunA (W : XK) (ι : List Addr) (H : Hp) (Q : List V → Hp → Prop) (r : R (List D)) : Prop := RunX mg K (fun ι H v d => DenAll K ι H v d) W ι H Q r
/-- a test: the value is a bool -/
abbrev RunT (W : XK) (ι : List Addr) (H : Hp) (Q : Bool → Hp → Prop) (r : R D) : Prop := RunX mg K (fun _ _ v d => d = .bl v) W ι H Q r
def tF (W : WX) (m : EM) : TE := fun σ H Q => ∃ ι g ρ, Rel mg K ι g H ∧ EnvR K ι H σ ρ ∧ RunE mg K (fun c d H' => W c d σ H') ι H Q (m ρ g)
def tFA (W : WX) (m : AM) : TA := fun σ H Q => ∃ ι g ρ, Rel mg K ι g H ∧ EnvR K ι H σ ρ ∧ RunA mg K (fun c d H' => W c d σ H') ι H Q (m ρ g)
/-- the value of a test is a bool, or the run has no word -/
def asB (m : EM) : EM := fun ρ g => (m ρ g).bind fun d g' => match d with
  | .bl b => .ok (.bl b) g'
  | _ => .bad
def tFT (W : WX) (m : EM) : TT := fun σ H Q => ∃ ι g ρ, Rel mg K ι g H ∧ EnvR K ι H σ ρ ∧ RunT mg K (fun c d H' => W c d σ H') ι H Q (asB m ρ g)
end
section
variable {mg : Str → Option Value} {K : PySem.W.Frag}
theorem RunX.step {α β : Type} {Dn : List Addr → Hp → β → α → Prop} {W : XK} {ι ι' : List Addr} {H H' : Hp} {g' : GH} {Q : β → Hp → Prop} {r : R α} (h : RunX mg K Dn W ι H Q r) (t : Step mg K ι H ι' g' H') : RunX mg K Dn W ι' H' Q r := by
  cases r with
  | ok d g => exact fun ι2 H2 v s dn => h ι2 H2 v (t.trans s) dn
  | ex c fs g => exact fun ι2 H2 cls dx s e => h ι2 H2 cls dx (t.trans s) e
  | bad => exact h
theorem RunX.bind {α β γ δ : Type} {Dn : List Addr → Hp → β → α → Prop} {Dm : List Addr → Hp → δ → γ → Prop} {W : XK} {ι : List Addr} {H : Hp} {Q : δ → Hp → Prop} {r : R α} {k : α → GH → R γ}
    (h : RunX mg K Dm W ι H Q (r.bind k)) : RunX mg K Dn W ι H (fun v H1 => ∃ ι1 g1 d, Step mg K ι H ι1 g1 H1 ∧ Dn ι1 H1 v d ∧ RunX mg K Dm W ι1 H1 Q (k d g1)) r := by
  cases r with
  | ok d g => exact fun ι2 H2 v s dn => ⟨ι2, g, d, s, dn, RunX.step h s⟩
  | ex c fs g => exact h
  | bad => exact h
theorem RunX.mono {α β : Type} {Dn : List Addr → Hp → β → α → Prop} {W : XK} {ι : List Addr} {H : Hp} {Q Q' : β → Hp → Prop} {r : R α} (h : RunX mg K Dn W ι H Q r) (f : ∀ v H, Q v H → Q' v H) : RunX mg K Dn W ι H Q' r := by
  cases r with
  | ok d g => exact fun ι2 H2 v s dn => f _ _ (h ι2 H2 v s dn)
  | ex c fs g => exact h
  | bad => exact h
theorem RunX.of_ok {α β : Type} {Dn : List Addr → Hp → β → α → Prop} {W : XK} {ι : List Addr} {H : Hp} {Q : β → Hp → Prop} {d : α} {g : GH} (h : RunX mg K Dn W ι H Q (.ok d g)) {ι' : List Addr} {H' : Hp} {v : β} (s : Step mg K ι H ι' g H') (dn : Dn ι' H' v d) : Q v H' := h ι' H' v s dn
end

theorem PE.imp {X : Cx} {e : Expr} {t t' : TE} (h : PE X e t) (f : ∀ σ H Q, t' σ H Q → t σ H Q) : PE X e t' := ⟨fun pins s σ H Q I q => h.run pins s σ H Q I (f σ H Q q)⟩
theorem PT.imp {X : Cx} {e : Expr} {t t' : TT} (h : PT X e t) (f : ∀ σ H Q, t' σ H Q → t σ H Q) : PT X e t' := ⟨fun pins s σ H Q I q => h.run pins s σ H Q I (f σ H Q q)⟩
theorem PW.imp {X : Cx} {e : Expr} {t t' : TT} (h : PW X e t) (f : ∀ σ H Q, t' σ H Q → t σ H Q) : PW X e t' := ⟨fun w pins s σ H Q I q => h.run w pins s σ H Q I (f σ H Q q)⟩
theorem PA.imp {X : Cx} {e : List Expr} {t t' : TA} (h : PA X e t) (f : ∀ σ H Q, t' σ H Q → t σ H Q) : PA X e t' := ⟨fun p pins s σ H Q I q => h.run p pins s σ H Q I (f σ H Q q)⟩

/-- an expression runs as m -/
structure SE (X : Cx) (W : WX) (e : Expr) (m : EM) : Prop where
  pe : PE X e (tF X.mg X.K W m)
structure ST (X : Cx) (W : WX) (e : Expr) (m : EM) : Prop where
  pt : PT X e (tFT X.mg X.K W m)
structure SWt (X : Cx) (W : WX) (e : Expr) (m : EM) : Prop where
  pw : PW X e (tFT X.mg X.K W m)
structure SA (X : Cx) (W : WX) (es : List Expr) (m : AM) : Prop where
  pa : PA X es (tFA X.mg X.K W m)

/-! ### names and constants -/
def mVar (i : Nat) : EM := fun ρ g => match ρ[i]? with
  | some (some d) => .ok d g
  | _ => .bad
def mC (d : D) : EM := fun _ g => .ok d g
section
variable {X : Cx} {W : WX} {pos : Pos}
theorem se_var (i : Nat) {x : Str} (hN : X.N[i]? = some x := by rfl) (hv : Vis X.env.scope x := by first | exact Or.inl rfl | exact Or.inr (Or.inl rfl) | exact Or.inr (Or.inr rfl)) (hd : (x == ("__debug__" : Str)) = false := by decide)
    (hcd : (x == ("__classdict__" : Str)) = false := by decide) : SE X W (.Name x pos) (mVar i) := ⟨PE.imp (pe_var hN hv hd hcd) fun σ H Q ⟨ι, g, ρ, r, hρ, h⟩ => by
  unfold mVar at h
  cases e : ρ[i]? with
  | none => rw [e] at h; exact h.elim
  | some o =>
    cases o with
    | none => rw [e] at h; exact h.elim
    | some d =>
      rw [e] at h
      obtain ⟨v, hv, hd⟩ := hρ.2 i d e
      exact ⟨v, hv, h ι H v (Step.refl r) hd⟩⟩
theorem tF_const {mg : Str → Option Value} {K : PySem.W.Frag} {d : D} {v : V} (hd : ∀ ι H, Den K ι H v d) : ∀ σ H Q, tF mg K W (mC d) σ H Q → tC v σ H Q :=
  fun σ H Q ⟨ι, g, ρ, r, hρ, h⟩ => h ι H v (Step.refl r) (hd ι H)
theorem se_int {i : Int} {j} : SE X W (.Constant (.int i) j pos) (mC (.int i)) := ⟨PE.imp pe_int (tF_const fun _ _ => .int i)⟩
theorem se_bl {b j} : SE X W (.Constant (.bool b) j pos) (mC (.bl b)) := ⟨PE.imp pe_bl (tF_const fun _ _ => .bl b)⟩
theorem se_non {j} : SE X W (.Constant .none j pos) (mC .non) := ⟨PE.imp pe_non (tF_const fun _ _ => .non)⟩
theorem se_str {x j} : SE X W (.Constant (.str x) j pos) (mC (.str x)) := ⟨PE.imp pe_str (tF_const fun _ _ => .str x)⟩
/-- a module's constant: a number, a text -/
theorem se_gint {x : Str} {i : Int} {t : Tok} (hg : Gl X x) (hm : X.mg x = some (.int i t)) (hd : (x == ("__debug__" : Str)) = false := by decide) : SE X W (.Name x pos) (mC (.int i)) :=
  ⟨PE.imp (pe_glob (v := .int i) hg hm ⟨_, rfl⟩ hd) (tF_const fun _ _ => .int i)⟩
theorem se_gstr {x : Str} {i : Str} {t : Tok} (hg : Gl X x) (hm : X.mg x = some (.str i t)) (hd : (x == ("__debug__" : Str)) = false := by decide) : SE X W (.Name x pos) (mC (.str i)) :=
  ⟨PE.imp (pe_glob (v := .str i) hg hm ⟨_, rfl⟩ hd) (tF_const fun _ _ => .str i)⟩
/-- a module's tuple of the written part -/
theorem se_gtup {x : Str} {a : Addr} {ds : List D} (hg : Gl X x) (hm : X.mg x = some (.ref a)) (hk : ∀ ι H, Den X.K ι H (.ref a) (.tup ds)) (hd : (x == ("__debug__" : Str)) = false := by decide) : SE X W (.Name x pos) (mC (.tup ds)) :=
  ⟨PE.imp (pe_glob (v := .ref a) hg hm rfl hd) (tF_const fun ι H => hk ι H)⟩
end

/-! ### argument lists, displays -/
def mNil : AM := fun _ g => .ok [] g
def mCons (a : EM) (r : AM) : AM := fun ρ g => (a ρ g).bind fun d g1 => (r ρ g1).bind fun ds g2 => .ok (d :: ds) g2
def mTup (m : AM) : EM := fun ρ g => (m ρ g).bind fun ds g1 => if ds.length ≤ sizeLine then .ok (.tup ds) g1 else .bad
def mLst (m : AM) : EM := fun ρ g => (m ρ g).bind fun ds g1 => if ds.length ≤ sizeLine then .ok (.obj g1.length) (g1 ++ [.lst ds]) else .bad
section
variable {X : Cx} {W : WX} {pos : Pos} {e : Expr} {es : List Expr} {m : EM} {n : AM}
theorem sa_nil : SA X W [] mNil := ⟨PA.imp pa_nil fun σ H Q ⟨ι, g, ρ, r, hρ, h⟩ => h ι H [] (Step.refl r) .nil⟩
theorem tFA_cons {mg : Str → Option Value} {K : PySem.W.Frag} {W : WX} : ∀ σ H Q, tFA mg K W (mCons m n) σ H Q → tCons (tF mg K W m) (tFA mg K W n) σ H Q := fun σ H Q ⟨ι, g, ρ, r, hρ, h⟩ => by
  refine ⟨ι, g, ρ, r, hρ, RunX.mono (RunX.bind h) fun v H1 ⟨ι1, g1, d, s1, hd, h1⟩ => ?_⟩
  refine ⟨ι1, g1, ρ, s1.rel, hρ.step s1, RunX.mono (RunX.bind h1) fun vs H2 ⟨ι2, g2, ds, s2, hds, h2⟩ => ?_⟩
  exact h2 ι2 H2 (v :: vs) (Step.refl s2.rel) (.cons (s2.den hd) hds)
theorem sa_cons (ha : SE X W e m) (hr : SA X W es n) (hs : starEach (e :: es) X.env = (false, eval e X.env) :: starEach es X.env := by rfl) : SA X W (e :: es) (mCons m n) :=
  ⟨PA.imp (pa_cons ha.pe hr.pa hs) tFA_cons⟩
theorem se_tup {x1} (h : SA X W es n) : SE X W (.Tuple es x1 pos) (mTup n) := ⟨PE.imp (pe_tup h.pa) fun σ H Q ⟨ι, g, ρ, r, hρ, h⟩ => by
  refine ⟨ι, g, ρ, r, hρ, RunX.mono (RunX.bind h) fun vs H1 ⟨ι1, g1, ds, s1, hds, h1⟩ => ?_⟩
  by_cases hl : ds.length ≤ sizeLine
  · rw [if_pos hl] at h1
    refine ⟨by rw [hds.length]; exact hl, fun p hp => ?_⟩
    have s2 : Step X.mg X.K ι1 H1 ι1 g1 (upd H1 p (.tup vs)) := Step.side s1.rel hp
    exact h1 ι1 _ _ s2 (.tup (TpT.of upd_same) (s2.denAll hds))
  · rw [if_neg hl] at h1; exact h1.elim⟩
theorem se_lst (h : SA X W es n) : SE X W (.List es pos) (mLst n) := ⟨PE.imp (pe_lst h.pa) fun σ H Q ⟨ι, g, ρ, r, hρ, h⟩ => by
  refine ⟨ι, g, ρ, r, hρ, RunX.mono (RunX.bind h) fun vs H1 ⟨ι1, g1, ds, s1, hds, h1⟩ => ?_⟩
  by_cases hl : ds.length ≤ sizeLine
  · rw [if_pos hl] at h1
    refine ⟨by rw [hds.length]; exact hl, fun p hp => ?_⟩
    have s0 : Step X.mg X.K ι1 H1 ι1 g1 (upd H1 p (.lst vs)) := Step.side s1.rel hp
    have s2 : Step X.mg X.K ι1 H1 (ι1 ++ [p]) (g1 ++ [.lst ds]) (upd H1 p (.lst vs)) := Step.lay s1.rel hp
      ⟨vs, upd_same, DenAll.mono (fun n a e => by rw [List.getElem?_append_left (List.getElem?_eq_some_iff.mp e).1]; exact e) s0.tup s0.rol _ _ hds⟩
    exact h1 _ _ _ s2 (.obj (by rw [← s1.rel.len]; simp))
  · rw [if_neg hl] at h1; exact h1.elim⟩
end

/-! ### operators by values -/
abbrev Op1 := D → GH → Option (D × GH)
abbrev Op2 := D → D → GH → Option (D × GH)
abbrev OpL := List D → GH → Option (D × GH)
def mOp1 (f : Op1) (a : EM) : EM := fun ρ g => (a ρ g).bind fun d g1 => lift (f d g1)
def mOp2 (f : Op2) (a b : EM) : EM := fun ρ g => (a ρ g).bind fun d g1 => (b ρ g1).bind fun e g2 => lift (f d e g2)
def mOpL (f : OpL) (a : AM) : EM := fun ρ g => (a ρ g).bind fun ds g1 => lift (f ds g1)
section
variable (mg : Str → Option Value) (K : PySem.W.Frag)
def RunO (ι : List Addr) (H : Hp) (Q : V → Hp → Prop) : Option (D × GH) → Prop
  | some (d, g') => ∀ ι' H' v, Step mg K ι H ι' g' H' → Den K ι' H' v d → Q v H'
  | none => False
def rF1 (f : Op1) : V → Hp → VK → Prop := fun x H Q => ∃ ι g d, Rel mg K ι g H ∧ Den K ι H x d ∧ RunO mg K ι H Q (f d g)
def rF2 (f : Op2) : R2 := fun x y H Q => ∃ ι g d e, Rel mg K ι g H ∧ Den K ι H x d ∧ Den K ι H y e ∧ RunO mg K ι H Q (f d e g)
def rFL (f : OpL) : List V → Hp → VK → Prop := fun xs H Q => ∃ ι g ds, Rel mg K ι g H ∧ DenAll K ι H xs ds ∧ RunO mg K ι H Q (f ds g)
end
section
variable {mg : Str → Option Value} {K : PySem.W.Frag} {W : WX} {f : Op2} {a b : EM}
theorem runO_of {W : XK} {ι : List Addr} {H : Hp} {Q : V → Hp → Prop} {o : Option (D × GH)} (h : RunE mg K W ι H Q (lift o)) : RunO mg K ι H Q o := by
  cases o with
  | none => exact h
  | some p => exact h
theorem tF_op2 : ∀ σ H Q, tF mg K W (mOp2 f a b) σ H Q → tOp (rF2 mg K f) (tF mg K W a) (tF mg K W b) σ H Q := fun σ H Q ⟨ι, g, ρ, r, hρ, h⟩ => by
  refine ⟨ι, g, ρ, r, hρ, RunX.mono (RunX.bind h) fun v H1 ⟨ι1, g1, d, s1, hd, h1⟩ => ?_⟩
  refine ⟨ι1, g1, ρ, s1.rel, hρ.step s1, RunX.mono (RunX.bind h1) fun u H2 ⟨ι2, g2, e, s2, he, h2⟩ => ?_⟩
  exact ⟨ι2, g2, d, e, s2.rel, s2.den hd, he, runO_of h2⟩
theorem tF_op1 {f : Op1} : ∀ σ H Q, tF mg K W (mOp1 f a) σ H Q → tF mg K W a σ H fun x H1 => rF1 mg K f x H1 Q := fun σ H Q ⟨ι, g, ρ, r, hρ, h⟩ =>
  ⟨ι, g, ρ, r, hρ, RunX.mono (RunX.bind h) fun v H1 ⟨ι1, g1, d, s1, hd, h1⟩ => ⟨ι1, g1, d, s1.rel, hd, runO_of h1⟩⟩
theorem tF_opL {f : OpL} {a : AM} : ∀ σ H Q, tF mg K W (mOpL f a) σ H Q → tFA mg K W a σ H fun x H1 => rFL mg K f x H1 Q := fun σ H Q ⟨ι, g, ρ, r, hρ, h⟩ =>
  ⟨ι, g, ρ, r, hρ, RunX.mono (RunX.bind h) fun v H1 ⟨ι1, g1, d, s1, hd, h1⟩ => ⟨ι1, g1, d, s1.rel, hd, runO_of h1⟩⟩
/-- a plain answer: the heap stays -/
theorem RunO.plain {ι : List Addr} {g : GH} {H : Hp} {Q : V → Hp → Prop} {d : D} (r : Rel mg K ι g H) (h : RunO mg K ι H Q (some (d, g))) {v : V} (hd : Den K ι H v d) : Q v H := h ι H v (Step.refl r) hd
end
section
variable {X : Cx} {W : WX} {pos : Pos} {e1 e2 : Expr} {m1 m2 : EM}
theorem se_op {op : Operator} {f : Op2} (ho : OpR X (binaryOp op) (rF2 X.mg X.K f)) (ha : SE X W e1 m1) (hb : SE X W e2 m2) : SE X W (.BinOp e1 op e2 pos) (mOp2 f m1 m2) := ⟨PE.imp (pe_op ho ha.pe hb.pe) tF_op2⟩
theorem se_cmp {op : CmpOp} {f : Op2} (ho : OpR X (compareOp op) (rF2 X.mg X.K f)) (ha : SE X W e1 m1) (hb : SE X W e2 m2) (hm : behindInMarks op e2 = false) : SE X W (.Compare e1 [op] [e2] pos) (mOp2 f m1 m2) := ⟨PE.imp (pe_cmpR ho ha.pe hb.pe hm) tF_op2⟩
theorem tFT_of {mg : Str → Option Value} {K : PySem.W.Frag} {m : EM} : ∀ σ H Q, tFT mg K W m σ H Q → tB (tF mg K W m) σ H Q := fun σ H Q ⟨ι, g, ρ, r, hρ, h⟩ => by
  refine ⟨ι, g, ρ, r, hρ, RunX.mono (RunX.bind (Dn := fun ι H v d => Den K ι H v d) h) fun v H1 ⟨ι1, g1, d, s1, hd, h1⟩ => ?_⟩
  cases hd with
  | bl b => exact ⟨b, rfl, h1 ι1 H1 b (Step.refl s1.rel) rfl⟩
  | non => exact h1.elim
  | int _ => exact h1.elim
  | str _ => exact h1.elim
  | tup _ _ => exact h1.elim
  | obj _ => exact h1.elim
  | rol _ _ => exact h1.elim
theorem st_val {e : Expr} {m : EM} (h : SE X W e m) (he : ∀ whole, isTrue e X.env whole = (do let v ← whole; standAt e.pos; holding [v] (truthy v)) := by intro _; rfl) : ST X W e m := ⟨PT.imp (pt_val h.pe he) tFT_of⟩
theorem st_cmp {op : CmpOp} {f : Op2} (ho : OpR X (compareOp op) (rF2 X.mg X.K f)) (ha : SE X W e1 m1) (hb : SE X W e2 m2) (hm : behindInMarks op e2 = false) : ST X W (.Compare e1 [op] [e2] pos) (mOp2 f m1 m2) :=
  ⟨PT.imp (pt_cmpR ho ha.pe hb.pe hm) fun σ H Q h => by
    obtain ⟨ι, g, ρ, r, hρ, h⟩ := tFT_of σ H Q h
    exact tF_op2 σ H _ ⟨ι, g, ρ, r, hρ, h⟩⟩
end

/-! ### and, or, not, if .. else -/
def mAnd (a b : EM) : EM := fun ρ g => (a ρ g).bind fun d g1 => match d with
  | .bl true => b ρ g1
  | .bl false => .ok (.bl false) g1
  | _ => .bad
def mOr (a b : EM) : EM := fun ρ g => (a ρ g).bind fun d g1 => match d with
  | .bl true => .ok (.bl true) g1
  | .bl false => b ρ g1
  | _ => .bad
def mNot (a : EM) : EM := fun ρ g => (a ρ g).bind fun d g1 => match d with
  | .bl b => .ok (.bl (!b)) g1
  | _ => .bad
def mIf (c a b : EM) : EM := fun ρ g => (c ρ g).bind fun d g1 => match d with
  | .bl true => a ρ g1
  | .bl false => b ρ g1
  | _ => .bad
section
variable {X : Cx} {W : WX} {pos : Pos} {a b c : Expr} {rest : List Expr} {ma mb mc : EM}
theorem asB_bl {m : EM} {ρ : Rho} {g g1 : GH} {b : Bool} (h : m ρ g = .ok (.bl b) g1) : asB m ρ g = .ok (.bl b) g1 := by unfold asB; rw [h]; rfl
theorem tFT_and {mg : Str → Option Value} {K : PySem.W.Frag} : ∀ σ H Q, tFT mg K W (mAnd ma mb) σ H Q → tAnd (tFT mg K W ma) (tFT mg K W mb) σ H Q := fun σ H Q ⟨ι, g, ρ, r, hρ, h⟩ => by
  refine ⟨ι, g, ρ, r, hρ, ?_⟩
  unfold asB mAnd at h
  unfold asB
  cases e : ma ρ g with
  | ok d g1 =>
    rw [e] at h
    cases d with
    | bl b =>
      intro ι1 H1 v s hv
      cases hv
      cases b with
      | true => exact ⟨ι1, g1, ρ, s.rel, hρ.step s, RunX.step h s⟩
      | false => exact h ι1 H1 false s rfl
    | non => exact h
    | int _ => exact h
    | str _ => exact h
    | tup _ => exact h
    | obj _ => exact h
    | rol _ => exact h
  | ex c fs g1 => rw [e] at h; exact h
  | bad => rw [e] at h; exact h
theorem tFT_or {mg : Str → Option Value} {K : PySem.W.Frag} : ∀ σ H Q, tFT mg K W (mOr ma mb) σ H Q → tOr (tFT mg K W ma) (tFT mg K W mb) σ H Q := fun σ H Q ⟨ι, g, ρ, r, hρ, h⟩ => by
  refine ⟨ι, g, ρ, r, hρ, ?_⟩
  unfold asB mOr at h
  unfold asB
  cases e : ma ρ g with
  | ok d g1 =>
    rw [e] at h
    cases d with
    | bl b =>
      intro ι1 H1 v s hv
      cases hv
      cases b with
      | false => exact ⟨ι1, g1, ρ, s.rel, hρ.step s, RunX.step h s⟩
      | true => exact h ι1 H1 true s rfl
    | non => exact h
    | int _ => exact h
    | str _ => exact h
    | tup _ => exact h
    | obj _ => exact h
    | rol _ => exact h
  | ex c fs g1 => rw [e] at h; exact h
  | bad => rw [e] at h; exact h
theorem tFT_not {mg : Str → Option Value} {K : PySem.W.Frag} : ∀ σ H Q, tFT mg K W (mNot ma) σ H Q → tNot (tFT mg K W ma) σ H Q := fun σ H Q ⟨ι, g, ρ, r, hρ, h⟩ => by
  refine ⟨ι, g, ρ, r, hρ, ?_⟩
  unfold asB mNot at h
  unfold asB
  cases e : ma ρ g with
  | ok d g1 =>
    rw [e] at h
    cases d with
    | bl b =>
      intro ι1 H1 v s hv
      cases hv
      exact h ι1 H1 (!b) s rfl
    | non => exact h
    | int _ => exact h
    | str _ => exact h
    | tup _ => exact h
    | obj _ => exact h
    | rol _ => exact h
  | ex c fs g1 => rw [e] at h; exact h
  | bad => rw [e] at h; exact h
theorem tF_ite {mg : Str → Option Value} {K : PySem.W.Frag} : ∀ σ H Q, tF mg K W (mIf mc ma mb) σ H Q → tIf (tFT mg K W mc) (tF mg K W ma) (tF mg K W mb) σ H Q := fun σ H Q ⟨ι, g, ρ, r, hρ, h⟩ => by
  refine ⟨ι, g, ρ, r, hρ, ?_⟩
  unfold mIf at h
  unfold asB
  cases e : mc ρ g with
  | ok d g1 =>
    rw [e] at h
    cases d with
    | bl b =>
      intro ι1 H1 v s hv
      cases hv
      cases b with
      | true => exact ⟨ι1, g1, ρ, s.rel, hρ.step s, RunX.step h s⟩
      | false => exact ⟨ι1, g1, ρ, s.rel, hρ.step s, RunX.step h s⟩
    | non => exact h
    | int _ => exact h
    | str _ => exact h
    | tup _ => exact h
    | obj _ => exact h
    | rol _ => exact h
  | ex c fs g1 => rw [e] at h; exact h
  | bad => rw [e] at h; exact h
/-- and, or as values -/
theorem tF_and {mg : Str → Option Value} {K : PySem.W.Frag} : ∀ σ H Q, tF mg K W (mAnd ma mb) σ H Q → tAndV (tF mg K W ma) (tF mg K W mb) σ H Q := fun σ H Q ⟨ι, g, ρ, r, hρ, h⟩ => by
  refine ⟨ι, g, ρ, r, hρ, RunX.mono (RunX.bind (Dn := fun ι H v d => Den K ι H v d) h) fun v H1 ⟨ι1, g1, d, s1, hd, h1⟩ => ?_⟩
  cases hd with
  | bl b =>
    refine ⟨b, rfl, ?_⟩
    cases b with
    | true => rw [if_pos rfl]; exact ⟨ι1, g1, ρ, s1.rel, hρ.step s1, h1⟩
    | false => rw [if_neg (by decide)]; exact h1 ι1 H1 _ (Step.refl s1.rel) (.bl false)
  | non => exact h1.elim
  | int _ => exact h1.elim
  | str _ => exact h1.elim
  | tup _ _ => exact h1.elim
  | obj _ => exact h1.elim
  | rol _ _ => exact h1.elim
theorem tF_or {mg : Str → Option Value} {K : PySem.W.Frag} : ∀ σ H Q, tF mg K W (mOr ma mb) σ H Q → tOrV (tF mg K W ma) (tF mg K W mb) σ H Q := fun σ H Q ⟨ι, g, ρ, r, hρ, h⟩ => by
  refine ⟨ι, g, ρ, r, hρ, RunX.mono (RunX.bind (Dn := fun ι H v d => Den K ι H v d) h) fun v H1 ⟨ι1, g1, d, s1, hd, h1⟩ => ?_⟩
  cases hd with
  | bl b =>
    refine ⟨b, rfl, ?_⟩
    cases b with
    | true => rw [if_pos rfl]; exact h1 ι1 H1 _ (Step.refl s1.rel) (.bl true)
    | false => rw [if_neg (by decide)]; exact ⟨ι1, g1, ρ, s1.rel, hρ.step s1, h1⟩
  | non => exact h1.elim
  | int _ => exact h1.elim
  | str _ => exact h1.elim
  | tup _ _ => exact h1.elim
  | obj _ => exact h1.elim
  | rol _ _ => exact h1.elim
theorem tF_not {mg : Str → Option Value} {K : PySem.W.Frag} : ∀ σ H Q, tF mg K W (mNot ma) σ H Q → tNotV (tF mg K W ma) σ H Q := fun σ H Q ⟨ι, g, ρ, r, hρ, h⟩ => by
  refine ⟨ι, g, ρ, r, hρ, RunX.mono (RunX.bind (Dn := fun ι H v d => Den K ι H v d) h) fun v H1 ⟨ι1, g1, d, s1, hd, h1⟩ => ?_⟩
  cases hd with
  | bl b => exact ⟨b, rfl, h1 ι1 H1 _ (Step.refl s1.rel) (.bl (!b))⟩
  | non => exact h1.elim
  | int _ => exact h1.elim
  | str _ => exact h1.elim
  | tup _ _ => exact h1.elim
  | obj _ => exact h1.elim
  | rol _ _ => exact h1.elim
/-- a value's boolean operators -/
theorem se_one {op} (h : SE X W a ma) : SE X W (.BoolOp op [a] pos) ma := ⟨pe_one h.pe⟩
theorem se_and (ha : SE X W a ma) (hb : SE X W (.BoolOp .And (b :: rest) pos) mb) : SE X W (.BoolOp .And (a :: b :: rest) pos) (mAnd ma mb) := ⟨PE.imp (pe_and ha.pe hb.pe) tF_and⟩
theorem se_or (ha : SE X W a ma) (hb : SE X W (.BoolOp .Or (b :: rest) pos) mb) : SE X W (.BoolOp .Or (a :: b :: rest) pos) (mOr ma mb) := ⟨PE.imp (pe_or ha.pe hb.pe) tF_or⟩
theorem se_not (ha : SE X W a ma) : SE X W (.UnaryOp .Not a pos) (mNot ma) := ⟨PE.imp (pe_not ha.pe) tF_not⟩
theorem se_if (hc : ST X W c mc) (ha : SE X W a ma) (hb : SE X W b mb) : SE X W (.IfExp c a b pos) (mIf mc ma mb) := ⟨PE.imp (pe_ifExp hc.pt ha.pe hb.pe) tF_ite⟩
/-- tests -/
theorem sw_and1 (ha : ST X W a ma) : SWt X W (.BoolOp .And [a] pos) ma := ⟨pw_and1 ha.pt⟩
theorem sw_or1 (ha : ST X W a ma) : SWt X W (.BoolOp .Or [a] pos) ma := ⟨pw_or1 ha.pt⟩
theorem sw_and (ha : ST X W a ma) (hb : SWt X W (.BoolOp .And (b :: rest) pos) mb) : SWt X W (.BoolOp .And (a :: b :: rest) pos) (mAnd ma mb) := ⟨PW.imp (pw_and ha.pt hb.pw) tFT_and⟩
theorem sw_or (ha : ST X W a ma) (hb : SWt X W (.BoolOp .Or (b :: rest) pos) mb) : SWt X W (.BoolOp .Or (a :: b :: rest) pos) (mOr ma mb) := ⟨PW.imp (pw_or ha.pt hb.pw) tFT_or⟩
theorem st_w {e : Expr} (h : SWt X W e ma) : ST X W e ma := ⟨h.pw.pt⟩
theorem st_not (ha : ST X W a ma) : ST X W (.UnaryOp .Not a pos) (mNot ma) := ⟨PT.imp (pt_not ha.pt) tFT_not⟩
end
end L3

/-! L3C: statements. -/
namespace L3
open PySem PySem.Spec L2

/-- how a statement ends -/
inductive Fl where
  | nx (ρ : Rho) | rt (d : D) | bk (ρ : Rho) | ct (ρ : Rho)
inductive RS where
  | ok (f : Fl) (g : GH)
  | ex (c : Str) (fs : List (Str × D)) (ρ : Rho) (g : GH)
  | bad
abbrev SM := Rho → GH → RS
/-- an expression's run within a statement -/
def R.st {α : Type} (r : R α) (ρ : Rho) (k : α → GH → RS) : RS := match r with
  | .ok a g => k a g
  | .ex c fs g => .ex c fs ρ g
  | .bad => .bad
@[simp] theorem R.st_ok {α : Type} (a : α) (g : GH) (ρ : Rho) (k : α → GH → RS) : (R.ok a g).st ρ k = k a g := rfl
@[simp] theorem R.st_ex {α : Type} (c : Str) (fs : List (Str × D)) (g : GH) (ρ : Rho) (k : α → GH → RS) : (R.ex c fs g : R α).st ρ k = .ex c fs ρ g := rfl
@[simp] theorem R.st_bad {α : Type} (ρ : Rho) (k : α → GH → RS) : (R.bad : R α).st ρ k = .bad := rfl
/-- a statement's run, what follows it where it goes on -/
def RS.nx (r : RS) (k : Rho → GH → RS) : RS := match r with
  | .ok (.nx ρ) g => k ρ g
  | r => r
@[simp] theorem RS.nx_nx (ρ : Rho) (g : GH) (k : Rho → GH → RS) : (RS.ok (.nx ρ) g).nx k = k ρ g := rfl
@[simp] theorem RS.nx_rt (d : D) (g : GH) (k : Rho → GH → RS) : (RS.ok (.rt d) g).nx k = .ok (.rt d) g := rfl
@[simp] theorem RS.nx_bk (ρ : Rho) (g : GH) (k : Rho → GH → RS) : (RS.ok (.bk ρ) g).nx k = .ok (.bk ρ) g := rfl
@[simp] theorem RS.nx_ct (ρ : Rho) (g : GH) (k : Rho → GH → RS) : (RS.ok (.ct ρ) g).nx k = .ok (.ct ρ) g := rfl
@[simp] theorem RS.nx_ex (c : Str) (fs : List (Str × D)) (ρ : Rho) (g : GH) (k : Rho → GH → RS) : (RS.ex c fs ρ g).nx k = .ex c fs ρ g := rfl
@[simp] theorem RS.nx_bad (k : Rho → GH → RS) : RS.bad.nx k = .bad := rfl

section
variable (mg : Str → Option Value) (K : PySem.W.Frag)
def RunS (W : WX) (Dn : Ends) (ι : List Addr) (H : Hp) : RS → Prop
  | .ok (.nx ρ') g' => ∀ ι' H' σ', Step mg K ι H ι' g' H' → EnvR K ι' H' σ' ρ' → Dn.nx σ' H'
  | .ok (.rt d) g' => ∀ ι' H' v, Step mg K ι H ι' g' H' → Den K ι' H' v d → Dn.rt v H'
  | .ok (.bk ρ') g' => ∀ ι' H' σ', Step mg K ι H ι' g' H' → EnvR K ι' H' σ' ρ' → Dn.bk σ' H'
  | .ok (.ct ρ') g' => ∀ ι' H' σ', Step mg K ι H ι' g' H' → EnvR K ι' H' σ' ρ' → Dn.ct σ' H'
  | .ex c fs ρ' g' => ∀ ι' H' σ' cls dx, Step mg K ι H ι' g' H' → EnvR K ι' H' σ' ρ' → ExcR mg K ι' H' cls dx c fs → W cls dx σ' H'
  | .bad => False
def tFS (W : WX) (m : SM) : TS := fun Dn σ H => ∃ ι g ρ, Rel mg K ι g H ∧ EnvR K ι H σ ρ ∧ RunS mg K W Dn ι H (m ρ g)
end
section
variable {mg : Str → Option Value} {K : PySem.W.Frag}
theorem RunS.step {W : WX} {Dn : Ends} {ι ι' : List Addr} {H H' : Hp} {g' : GH} {r : RS} (h : RunS mg K W Dn ι H r) (t : Step mg K ι H ι' g' H') : RunS mg K W Dn ι' H' r := by
  cases r with
  | ok f g =>
    cases f with
    | nx ρ => exact fun ι2 H2 σ2 s e => h ι2 H2 σ2 (t.trans s) e
    | rt d => exact fun ι2 H2 σ2 s e => h ι2 H2 σ2 (t.trans s) e
    | bk ρ => exact fun ι2 H2 σ2 s e => h ι2 H2 σ2 (t.trans s) e
    | ct ρ => exact fun ι2 H2 σ2 s e => h ι2 H2 σ2 (t.trans s) e
  | ex c fs ρ g => exact fun ι2 H2 σ2 cls dx s e x => h ι2 H2 σ2 cls dx (t.trans s) e x
  | bad => exact h
theorem RunS.nx {W : WX} {Dn : Ends} {ι : List Addr} {H : Hp} {r : RS} {k : Rho → GH → RS} (h : RunS mg K W Dn ι H (r.nx k)) :
    RunS mg K W { Dn with nx := fun σ1 H1 => ∃ ι1 g1 ρ1, Step mg K ι H ι1 g1 H1 ∧ EnvR K ι1 H1 σ1 ρ1 ∧ RunS mg K W Dn ι1 H1 (k ρ1 g1) } ι H r := by
  cases r with
  | ok f g =>
    cases f with
    | nx ρ => exact fun ι2 H2 σ2 s e => ⟨ι2, g, ρ, s, e, RunS.step h s⟩
    | rt d => exact h
    | bk ρ => exact h
    | ct ρ => exact h
  | ex c fs ρ g => exact h
  | bad => exact h
/-- an expression's run ahead of what it feeds -/
theorem RunS.bind {α β : Type} {Dm : List Addr → Hp → β → α → Prop} {W : WX} {Dn : Ends} {ι : List Addr} {H : Hp} {σ : L2.St} {ρ : Rho} {r : R α} {k : α → GH → RS} (hρ : EnvR K ι H σ ρ)
    (h : RunS mg K W Dn ι H (r.st ρ k)) : RunX mg K Dm (fun c d H' => W c d σ H') ι H (fun v H1 => ∃ ι1 g1 d, Step mg K ι H ι1 g1 H1 ∧ Dm ι1 H1 v d ∧ RunS mg K W Dn ι1 H1 (k d g1)) r := by
  cases r with
  | ok d g => exact fun ι2 H2 v s dn => ⟨ι2, g, d, s, dn, RunS.step h s⟩
  | ex c fs g => exact fun ι2 H2 cls dx s e => h ι2 H2 σ cls dx s (hρ.step s) e
  | bad => exact h
end
theorem PS.imp {X : Cx} {e : Stmt} {t t' : TS} (h : PS X e t) (f : ∀ D σ H, t' D σ H → t D σ H) : PS X e t' := ⟨fun pins s σ H D I q => h.run pins s σ H D I (f D σ H q)⟩
theorem PSs.imp {X : Cx} {e : List Stmt} {t t' : TS} (h : PSs X e t) (f : ∀ D σ H, t' D σ H → t D σ H) : PSs X e t' := ⟨fun pins s σ H D I q => h.run pins s σ H D I (f D σ H q)⟩
structure SS (X : Cx) (W : WX) (st : Stmt) (m : SM) : Prop where
  ps : PS X st (tFS X.mg X.K W m)
structure SSs (X : Cx) (W : WX) (st : List Stmt) (m : SM) : Prop where
  ps : PSs X st (tFS X.mg X.K W m)

def sSkip : SM := fun ρ g => .ok (.nx ρ) g
def sSeq (a b : SM) : SM := fun ρ g => (a ρ g).nx b
def sBrk : SM := fun ρ g => .ok (.bk ρ) g
def sCnt : SM := fun ρ g => .ok (.ct ρ) g
def sExp (m : EM) : SM := fun ρ g => (m ρ g).st ρ fun _ g1 => .ok (.nx ρ) g1
def sRet (m : EM) : SM := fun ρ g => (m ρ g).st ρ fun d g1 => .ok (.rt d) g1
def sRetN : SM := fun ρ g => .ok (.rt .non) g
def sIf (c : EM) (a b : SM) : SM := fun ρ g => (c ρ g).st ρ fun d g1 => match d with
  | .bl true => a ρ g1
  | .bl false => b ρ g1
  | _ => .bad
section
variable {X : Cx} {W : WX} {pos : Pos} {st : Stmt} {rest : List Stmt} {m m' : SM} {e : Expr} {n : EM}
theorem ss_nil : SSs X W [] sSkip := ⟨PSs.imp pss_nil fun D σ H ⟨ι, g, ρ, r, hρ, h⟩ => h ι H σ (Step.refl r) hρ⟩
theorem ss_cons (h1 : SS X W st m) (h2 : SSs X W rest m') : SSs X W (st :: rest) (sSeq m m') := ⟨PSs.imp (pss_cons h1.ps h2.ps) fun D σ H ⟨ι, g, ρ, r, hρ, h⟩ => by
  refine ⟨ι, g, ρ, r, hρ, ?_⟩
  have q := RunS.nx h
  cases e : m ρ g with
  | ok f g1 =>
    rw [e] at q
    cases f with
    | nx ρ1 =>
      intro ι1 H1 σ1 s1 e1
      obtain ⟨ι2, g2, ρ2, s2, e2, h2⟩ := q ι1 H1 σ1 s1 e1
      exact ⟨ι2, g2, ρ2, s2.rel, e2, h2⟩
    | rt d => exact q
    | bk ρ1 => exact q
    | ct ρ1 => exact q
  | ex c fs ρ1 g1 => rw [e] at q; exact q
  | bad => rw [e] at q; exact q⟩
theorem ss_one (h1 : SS X W st m) : SSs X W [st] m := ⟨pss_one h1.ps⟩
theorem ss_pass : SS X W (.Pass pos) sSkip := ⟨PS.imp ps_pass fun D σ H ⟨ι, g, ρ, r, hρ, h⟩ => h ι H σ (Step.refl r) hρ⟩
theorem ss_break : SS X W (.Break pos) sBrk := ⟨PS.imp ps_break fun D σ H ⟨ι, g, ρ, r, hρ, h⟩ => h ι H σ (Step.refl r) hρ⟩
theorem ss_continue : SS X W (.Continue pos) sCnt := ⟨PS.imp ps_continue fun D σ H ⟨ι, g, ρ, r, hρ, h⟩ => h ι H σ (Step.refl r) hρ⟩
def sBad : SM := fun _ _ => .bad
/-- a statement that isn't reached -/
theorem ss_never : SS X W st sBad := ⟨PS.imp ps_never fun D σ H ⟨ι, g, ρ, r, hρ, h⟩ => h⟩
theorem sss_never : SSs X W rest sBad := ⟨PSs.imp pss_never fun D σ H ⟨ι, g, ρ, r, hρ, h⟩ => h⟩
theorem ss_expr (h : SE X W e n) (hs : swapsWith e none pos.line X.env = pure false := by rfl) : SS X W (.Expr e pos) (sExp n) := ⟨PS.imp (ps_expr h.pe hs) fun D σ H ⟨ι, g, ρ, r, hρ, h⟩ => by
  refine ⟨ι, g, ρ, r, hρ, RunX.mono (RunS.bind hρ h) fun v H1 ⟨ι1, g1, d, s1, hd, h1⟩ => ?_⟩
  exact h1 ι1 H1 σ (Step.refl s1.rel) (hρ.step s1)⟩
theorem ss_doc {x j pos'} : SS X W (.Expr (.Constant (.str x) j pos) pos') sSkip := ⟨PS.imp ps_doc fun D σ H ⟨ι, g, ρ, r, hρ, h⟩ => h ι H σ (Step.refl r) hρ⟩
theorem ss_ret (h : SE X W e n) : SS X W (.Return (some e) pos) (sRet n) := ⟨PS.imp (ps_ret h.pe) fun D σ H ⟨ι, g, ρ, r, hρ, h⟩ => by
  refine ⟨ι, g, ρ, r, hρ, RunX.mono (RunS.bind hρ h) fun v H1 ⟨ι1, g1, d, s1, hd, h1⟩ => ?_⟩
  exact h1 ι1 H1 v (Step.refl s1.rel) hd⟩
theorem ss_retN : SS X W (.Return none pos) sRetN := ⟨PS.imp ps_retN fun D σ H ⟨ι, g, ρ, r, hρ, h⟩ => h ι H .non (Step.refl r) .non⟩
theorem ss_if {c : Expr} {a b : List Stmt} {mc : EM} {ma mb : SM} (hc : ST X W c mc) (ha : SSs X W a ma) (hb : SSs X W b mb) : SS X W (.If c a b pos) (sIf mc ma mb) := ⟨PS.imp (ps_if hc.pt ha.ps hb.ps) fun D σ H ⟨ι, g, ρ, r, hρ, h⟩ => by
  refine ⟨ι, g, ρ, r, hρ, ?_⟩
  unfold sIf at h
  unfold asB
  cases e : mc ρ g with
  | ok d g1 =>
    rw [e] at h
    cases d with
    | bl b =>
      intro ι1 H1 v s hv
      cases hv
      cases b with
      | true => exact ⟨ι1, g1, ρ, s.rel, hρ.step s, RunS.step h s⟩
      | false => exact ⟨ι1, g1, ρ, s.rel, hρ.step s, RunS.step h s⟩
    | non => exact h
    | int _ => exact h
    | str _ => exact h
    | tup _ => exact h
    | obj _ => exact h
    | rol _ => exact h
  | ex c fs g1 => rw [e] at h; exact fun ι1 H1 cls dx s x => h ι1 H1 σ cls dx s (hρ.step s) x
  | bad => rw [e] at h; exact h⟩
end

/-! ### targets -/
abbrev TM := D → Rho → GH → Option (Rho × GH)
abbrev TMs := List D → Rho → GH → Option (Rho × GH)
section
variable (mg : Str → Option Value) (K : PySem.W.Frag)
def RunG (Q : L2.St → Hp → Prop) (ι : List Addr) (H : Hp) : Option (Rho × GH) → Prop
  | some (ρ', g') => ∀ ι' H' σ', Step mg K ι H ι' g' H' → EnvR K ι' H' σ' ρ' → Q σ' H'
  | none => False
def tFG (m : TM) : TG := fun v σ H Q => ∃ ι g ρ d, Rel mg K ι g H ∧ EnvR K ι H σ ρ ∧ Den K ι H v d ∧ RunG mg K Q ι H (m d ρ g)
def tFGs (m : TMs) : TGs := fun vs σ H Q => ∃ ι g ρ ds, Rel mg K ι g H ∧ EnvR K ι H σ ρ ∧ DenAll K ι H vs ds ∧ RunG mg K Q ι H (m ds ρ g)
end
theorem PG.imp {X : Cx} {e : Expr} {t t' : TG} (h : PG X e t) (f : ∀ v σ H Q, t' v σ H Q → t v σ H Q) : PG X e t' := ⟨fun pins s σ H v u Q I r q => h.run pins s σ H v u Q I r (f v σ H Q q)⟩
theorem PGs.imp {X : Cx} {e : List Expr} {t t' : TGs} (h : PGs X e t) (f : ∀ v σ H Q, t' v σ H Q → t v σ H Q) : PGs X e t' := ⟨fun pins s σ H v u Q I r q => h.run pins s σ H v u Q I r (f v σ H Q q)⟩
structure SG (X : Cx) (e : Expr) (m : TM) : Prop where
  pg : PG X e (tFG X.mg X.K m)
structure SGs (X : Cx) (e : List Expr) (m : TMs) : Prop where
  pg : PGs X e (tFGs X.mg X.K m)
theorem RunG.step {mg : Str → Option Value} {K : PySem.W.Frag} {Q : L2.St → Hp → Prop} {ι ι' : List Addr} {H H' : Hp} {g' : GH} {o : Option (Rho × GH)} (h : RunG mg K Q ι H o) (t : Step mg K ι H ι' g' H') : RunG mg K Q ι' H' o := by
  cases o with
  | none => exact h
  | some p => exact fun ι2 H2 σ2 s e => h ι2 H2 σ2 (t.trans s) e
def gNm (i : Nat) : TM := fun d ρ g => some (ρ.set i (some d), g)
def gNl : TMs := fun ds ρ g => match ds with
  | [] => some (ρ, g)
  | _ :: _ => none
def gCn (a : TM) (r : TMs) : TMs := fun ds ρ g => match ds with
  | [] => none
  | d :: ds => match a d ρ g with
    | some (ρ1, g1) => r ds ρ1 g1
    | none => none
/-- a tuple taken apart -/
def gTp (n : Nat) (m : TMs) : TM := fun d ρ g => match d with
  | .tup ds => if ds.length = n then m ds ρ g else none
  | _ => none
section
variable {X : Cx} {W : WX} {pos : Pos} {e : Expr} {es : List Expr} {m : TM} {n : TMs}
theorem sg_name (i : Nat) {x : Str} (hN : X.N.Nodup) (hi : X.N[i]? = some x := by rfl) (hx : Loc X.env.scope x := by first | exact Or.inl rfl | exact Or.inr rfl) (hf : X.fn x = true ∨ X.env.scope.names.lookup x = some .local := by first | exact .inl rfl | exact .inr rfl | assumption) : SG X (.Name x pos) (gNm i) :=
  ⟨PG.imp (pg_name hN hi hx hf) fun v σ H Q ⟨ι, g, ρ, d, r, hρ, hd, h⟩ => h ι H _ (Step.refl r) (hρ.set i hd)⟩
theorem sgs_nil : SGs X [] gNl := ⟨PGs.imp pgs_nil fun v σ H Q ⟨ι, g, ρ, d, r, hρ, hd, h⟩ => by
  cases hd with
  | nil => exact ⟨rfl, h ι H _ (Step.refl r) hρ⟩
  | cons _ _ => exact h.elim⟩
theorem sgs_cons (h1 : SG X e m) (h2 : SGs X es n) (hs : (assignEach (e :: es) X.env).map (·.2) = assign e X.env :: (assignEach es X.env).map (·.2) := by rfl) : SGs X (e :: es) (gCn m n) :=
  ⟨PGs.imp (pgs_cons h1.pg h2.pg hs) fun v σ H Q ⟨ι, g, ρ, d, r, hρ, hd, h⟩ => by
    cases hd with
    | nil => exact h.elim
    | @cons v vs d ds hd hds =>
      refine ⟨v, vs, rfl, ι, g, ρ, d, r, hρ, hd, ?_⟩
      unfold gCn at h
      cases em : m d ρ g with
      | none => simp only [em] at h; exact h
      | some p =>
        obtain ⟨ρ1, g1⟩ := p
        simp only [em] at h
        exact fun ι1 H1 σ1 s1 e1 => ⟨ι1, g1, ρ1, ds, s1.rel, e1, s1.denAll hds, RunG.step h s1⟩⟩
theorem sg_tup {k : Nat} {c : Nat} (hc : X.calm = true) (h : SGs X es n)
    (hn : (assignEach es X.env).length = c := by rfl) (hst : (assignEach es X.env).findIdx? (·.1) = none := by rfl) : SG X (.Tuple es k pos) (gTp c n) :=
  ⟨PG.imp (pg_tup hc h.pg hn hst) fun v σ H Q ⟨ι, g, ρ, d, r, hρ, hd, h⟩ => by
    cases hd with
    | @tup a xs ds hs ha =>
      have h : RunG X.mg X.K Q ι H (if ds.length = c then n ds ρ g else none) := h
      by_cases hl : ds.length = c
      · rw [if_pos hl] at h
        exact ⟨_, xs, rfl, hs.1, by rw [ha.length]; exact hl, ι, g, ρ, ds, r, hρ, ha, h⟩
      · rw [if_neg hl] at h; exact h.elim
    | non => exact h.elim
    | bl _ => exact h.elim
    | int _ => exact h.elim
    | str _ => exact h.elim
    | obj _ => exact h.elim
    | rol _ _ => exact h.elim⟩
end
def sAsg (m : EM) (t : TM) : SM := fun ρ g => (m ρ g).st ρ fun d g1 => match t d ρ g1 with
  | some (ρ1, g2) => .ok (.nx ρ1) g2
  | none => .bad
section
variable {X : Cx} {W : WX} {pos : Pos} {e tg : Expr} {n : EM} {m : TM}
theorem tFS_asg {mg : Str → Option Value} {K : PySem.W.Frag} : ∀ D σ H, tFS mg K W (sAsg n m) D σ H → tAsg (tF mg K W n) (tFG mg K m) D σ H := fun D σ H ⟨ι, g, ρ, r, hρ, h⟩ => by
  refine ⟨ι, g, ρ, r, hρ, RunX.mono (RunS.bind hρ h) fun v H1 ⟨ι1, g1, d, s1, hd, h1⟩ => ?_⟩
  refine ⟨ι1, g1, ρ, d, s1.rel, hρ.step s1, hd, ?_⟩
  cases em : m d ρ g1 with
  | none => simp only [em] at h1; exact h1
  | some p => simp only [em] at h1; exact h1
theorem ss_asg (he : SE X W e n) (hg : SG X tg m) (hs : swapsWithSole [tg] e pos.line X.env = pure false := by rfl) (hw : swappedStores [tg] e X.env = pure none := by rfl)
    (h1 : (assignEach [tg] X.env).map (·.2) = [assign tg X.env] := by rfl) : SS X W (.Assign [tg] e pos) (sAsg n m) := ⟨PS.imp (ps_asg he.pe hg.pg hs hw h1) tFS_asg⟩
theorem ss_set (i : Nat) {x : Str} {pos' : Pos} (hN : X.N.Nodup) (he : SE X W e n) (hi : X.N[i]? = some x := by rfl) (hx : Loc X.env.scope x := by first | exact Or.inl rfl | exact Or.inr rfl) (hs : swapsWith e (some (.Name x pos')) pos.line X.env = pure false := by rfl)
    (hf : X.fn x = true ∨ X.env.scope.names.lookup x = some .local := by first | exact .inl rfl | exact .inr rfl | assumption) : SS X W (.Assign [.Name x pos'] e pos) (sAsg n (gNm i)) :=
  ⟨PS.imp (ps_set hN hi hx he.pe hs hf) fun D σ H ⟨ι, g, ρ, r, hρ, h⟩ => by
    refine ⟨ι, g, ρ, r, hρ, RunX.mono (RunS.bind hρ h) fun v H1 ⟨ι1, g1, d, s1, hd, h1⟩ => ?_⟩
    exact h1 ι1 H1 _ (Step.refl s1.rel) ((hρ.step s1).set i hd)⟩
end

/-! ### while -/
def whileN (c : EM) (b : SM) : Nat → SM
  | 0 => sBad
  | k + 1 => fun ρ g => (c ρ g).st ρ fun d g1 => match d with
    | .bl false => .ok (.nx ρ) g1
    | .bl true => match b ρ g1 with
      | .ok (.nx ρ1) g2 => whileN c b k ρ1 g2
      | .ok (.ct ρ1) g2 => whileN c b k ρ1 g2
      | .ok (.bk ρ1) g2 => .ok (.nx ρ1) g2
      | r => r
    | _ => .bad
def fuel : Nat := 1000000
def sWhile (c : EM) (b : SM) : SM := whileN c b fuel
section
variable {X : Cx} {W : WX} {pos : Pos} {c : Expr} {body : List Stmt} {mc : EM} {mb : SM}
theorem ss_while (hp : PassesOwn (model X.prog X.w) X.A X.env X.xe) (hc : ST X W c mc) (hb : SSs X W body mb) : SS X W (.While c body [] pos) (sWhile mc mb) := ⟨PS.imp (ps_while hp hc.pt hb.ps) fun D σ H ⟨ι, g, ρ, r, hρ, h⟩ => by
  refine ⟨fun k σ H => ∃ ι g ρ, Rel X.mg X.K ι g H ∧ EnvR X.K ι H σ ρ ∧ RunS X.mg X.K W D ι H (whileN mc mb k ρ g), ⟨fuel, ι, g, ρ, r, hρ, h⟩, ?_⟩
  rintro k σ H ⟨ι, g, ρ, r, hρ, h⟩
  cases k with
  | zero => exact h.elim
  | succ k =>
    refine ⟨ι, g, ρ, r, hρ, ?_⟩
    unfold whileN at h
    unfold asB
    cases e : mc ρ g with
    | ok d g1 =>
      rw [e] at h
      cases d with
      | bl b =>
        intro ι1 H1 v s hv
        cases hv
        have h1 := RunS.step h s
        cases b with
        | false => rw [if_neg (by decide)]; exact h1 ι1 H1 σ (Step.refl s.rel) (hρ.step s)
        | true =>
          rw [if_pos rfl]
          refine ⟨fun σ' H' => ∃ ι g ρ, Rel X.mg X.K ι g H' ∧ EnvR X.K ι H' σ' ρ ∧ RunS X.mg X.K W D ι H' (whileN mc mb k ρ g), fun σ' H' q => ⟨k, Nat.lt_succ_self k, q⟩, ι1, g1, ρ, s.rel, hρ.step s, ?_⟩
          cases eb : mb ρ g1 with
          | ok f g2 =>
            simp only [R.st_ok, eb] at h1
            cases f with
            | nx ρ1 => exact fun ι2 H2 σ2 s2 e2 => ⟨ι2, g2, ρ1, s2.rel, e2, RunS.step h1 s2⟩
            | ct ρ1 => exact fun ι2 H2 σ2 s2 e2 => ⟨ι2, g2, ρ1, s2.rel, e2, RunS.step h1 s2⟩
            | bk ρ1 => exact h1
            | rt d => exact h1
          | ex c fs ρ1 g2 => simp only [R.st_ok, eb] at h1; exact h1
          | bad => simp only [R.st_ok, eb] at h1; exact h1
      | non => exact h
      | int _ => exact h
      | str _ => exact h
      | tup _ => exact h
      | obj _ => exact h
      | rol _ => exact h
    | ex c fs g1 => rw [e] at h; exact fun ι1 H1 cls dx s x => h ι1 H1 σ cls dx s (hρ.step s) x
    | bad => rw [e] at h; exact h⟩
end
end L3

/-! L3D: operators by values. -/
namespace L3
open PySem PySem.Spec L2

/-! ### reading objects -/
def rdL (g : GH) (n : Nat) : Option (List D) := match g[n]? with
  | some (.lst ds) => some ds
  | _ => none
def rdD (g : GH) (n : Nat) : Option (Bool × List (D × D)) := match g[n]? with
  | some (.dct t ds) => some (t, ds)
  | some (.frz (.dct t ds)) => some (t, ds)
  | _ => none
section
variable {mg : Str → Option Value} {K : PySem.W.Frag} {ι : List Addr} {g : GH} {H : Hp}
theorem Rel.rdL (r : Rel mg K ι g H) {n : Nat} {a : Addr} {ds : List D} (h : rdL g n = some ds) (e : ι[n]? = some a) : ∃ xs, H a = some (.lst xs) ∧ DenAll K ι H xs ds := by
  unfold L3.rdL at h
  cases q : g[n]? with
  | none => rw [q] at h; cases h
  | some o =>
    rw [q] at h
    have ob := r.at_ n o a q e
    cases o with
    | lst ds' => cases h; exact ob
    | dct _ _ => cases h
    | ins _ _ => cases h
    | frz o => cases h
theorem Rel.rdD (r : Rel mg K ι g H) {n : Nat} {a : Addr} {t : Bool} {ds : List (D × D)} (h : rdD g n = some (t, ds)) (e : ι[n]? = some a) : ∃ u, Rd H a u ∧ DctR K ι H u t ds := by
  unfold L3.rdD at h
  cases q : g[n]? with
  | none => rw [q] at h; cases h
  | some o =>
    rw [q] at h
    have ob := r.at_ n o a q e
    cases o with
    | dct t' ds' => cases h; obtain ⟨u, h1, h2⟩ := ob; exact ⟨u, .inl h1, h2⟩
    | lst _ => cases h
    | ins _ _ => cases h
    | frz o =>
      cases o with
      | dct t' ds' => cases h; obtain ⟨ob, u, h1, h2⟩ := ob; exact ⟨u, .inr ⟨ob, h1⟩, h2⟩
      | lst _ => cases h
      | ins _ _ => cases h
      | frz _ => cases h
/-- what an object's value denotes -/
theorem Den.objAt {v : V} {n : Nat} (h : Den K ι H v (.obj n)) : ∃ a, v = .ref a ∧ ι[n]? = some a := by
  cases h with
  | obj e => exact ⟨_, rfl, e⟩
/-- a new list, a new tuple -/
theorem RunO.newL {r : Rel mg K ι g H} {Q : V → Hp → Prop} {ds : List D} {xs : List V} (h : RunO mg K ι H Q (some (.obj g.length, g ++ [.lst ds]))) (hd : DenAll K ι H xs ds) : ∀ p, H p = none → Q (.ref p) (upd H p (.lst xs)) := fun p hp => by
  have s0 : Step mg K ι H ι g (upd H p (.lst xs)) := Step.side r hp
  have s2 : Step mg K ι H (ι ++ [p]) (g ++ [.lst ds]) (upd H p (.lst xs)) := Step.lay r hp
    ⟨xs, upd_same, DenAll.mono (fun n a e => by rw [List.getElem?_append_left (List.getElem?_eq_some_iff.mp e).1]; exact e) s0.tup s0.rol _ _ hd⟩
  exact h _ _ _ s2 (.obj (by rw [← r.len]; simp))
theorem RunO.newT {r : Rel mg K ι g H} {Q : V → Hp → Prop} {ds : List D} {xs : List V} (h : RunO mg K ι H Q (some (.tup ds, g))) (hd : DenAll K ι H xs ds) : ∀ p, H p = none → Q (.ref p) (upd H p (.tup xs)) := fun p hp => by
  have s0 : Step mg K ι H ι g (upd H p (.tup xs)) := Step.side r hp
  exact h _ _ _ s0 (.tup (TpT.of upd_same) (s0.denAll hd))
end
theorem OpR.imp {X : Cx} {f : Value → Value → Sem Value} {r r' : R2} (h : OpR X f r) (i : ∀ x y H Q, r' x y H Q → r x y H Q) : OpR X f r' := fun pins s σ H x y v u Q I rx ry q => h pins s σ H x y v u Q I rx ry (i x y H Q q)
theorem OpR.any {X : Cx} {f : Value → Value → Sem Value} {r : R2} (h : ∀ x y H Q, r x y H Q → ∃ r', OpR X f r' ∧ r' x y H Q) : OpR X f r := fun pins s σ H x y v u Q I rx ry q => by
  obtain ⟨r', h1, h2⟩ := h x y H Q q
  exact h1 pins s σ H x y v u Q I rx ry h2

/-! ### + - * // % ** -/
def opAdd : Op2 := fun d e g => match d, e with
  | .int i, .int j => some (.int (i + j), g)
  | .str x, .str y => if x.length + y.length ≤ sizeLine then some (.str (x ++ y), g) else none
  | .tup xs, .tup ys => if xs.length + ys.length ≤ sizeLine then some (.tup (xs ++ ys), g) else none
  | .obj n, .obj m => match rdL g n, rdL g m with
    | some xs, some ys => if xs.length + ys.length ≤ sizeLine then some (.obj g.length, g ++ [.lst (xs ++ ys)]) else none
    | _, _ => none
  | _, _ => none
def opSub : Op2 := fun d e g => match d, e with
  | .int i, .int j => some (.int (i - j), g)
  | _, _ => none
instance (i j : Int) : Decidable (CMul i j) := inferInstanceAs (Decidable (_ ∨ _))
def opMul : Op2 := fun d e g => match d, e with
  | .int i, .int j => if CMul i j then some (.int (i * j), g) else none
  | .obj n, .int k => match rdL g n with
    | some xs => if -(2 ^ 63) ≤ k ∧ k < 2 ^ 63 ∧ xs.length * k.toNat ≤ sizeLine then some (.obj g.length, g ++ [.lst (List.replicate k.toNat xs).flatten]) else none
    | none => none
  | .tup xs, .int k => if xs ≠ [] ∧ 2 ≤ k ∧ k ≤ 1000 ∧ xs.length ≤ 1000 then some (.tup (List.replicate k.toNat xs).flatten, g) else none
  | _, _ => none
def opFdiv : Op2 := fun d e g => match d, e with
  | .int i, .int j => if 0 < j ∧ j < 1073741824 then some (.int (i / j), g) else none
  | _, _ => none
/-- i % j, of a symbol too where j is 1 -/
def imod (i j : Int) : Int := if j = 1 then 0 else i % j
theorem imod_eq (i j : Int) : imod i j = i % j := by
  unfold imod
  split
  · next h => rw [h, Int.emod_one]
  · rfl
def opMod : Op2 := fun d e g => match d, e with
  | .int i, .int j => if 0 < j then some (.int (imod i j), g) else none
  | _, _ => none
def opPow : Op2 := fun d e g => match d, e with
  | .int i, .int j => if 0 ≤ j ∧ j ≤ 1000000 ∧ i.natAbs < 2 ^ 64 then some (.int (i ^ j.toNat), g) else none
  | _, _ => none
section
variable {X : Cx}
local macro_rules | `(tactic| walk_at "l3nil") => `(tactic| exact False.elim (by assumption))
theorem rep_den {K : PySem.W.Frag} {ι : List Addr} {H : Hp} {xs : List V} {ds : List D} (h : DenAll K ι H xs ds) : ∀ n : Nat, DenAll K ι H (List.replicate n xs).flatten (List.replicate n ds).flatten
  | 0 => .nil
  | n + 1 => by
    rw [List.replicate_succ, List.replicate_succ, List.flatten_cons, List.flatten_cons]
    exact DenAll.append h (rep_den h n)
theorem or_add : OpR X (binaryOp .Add) (rF2 X.mg X.K opAdd) := OpR.any fun x y H Q ⟨ι, g, d, e, r, hd, he, h⟩ => by
  cases hd with
  | int i => cases he with
    | int j => exact ⟨_, op_add, i, j, rfl, rfl, h.plain r (.int _)⟩
    | _ => exact h.elim
  | str x => cases he with
    | str y =>
      have h : RunO X.mg X.K ι H Q (if x.length + y.length ≤ sizeLine then some (.str (x ++ y), g) else none) := h
      by_cases hl : x.length + y.length ≤ sizeLine
      · rw [if_pos hl] at h
        exact ⟨_, op_add_str, x, y, rfl, rfl, hl, h.plain r (.str _)⟩
      · rw [if_neg hl] at h; exact h.elim
    | _ => exact h.elim
  | @tup a xs ds ha hxs => cases he with
    | @tup b ys es hb hys =>
      have h : RunO X.mg X.K ι H Q (if ds.length + es.length ≤ sizeLine then some (.tup (ds ++ es), g) else none) := h
      by_cases hl : ds.length + es.length ≤ sizeLine
      · rw [if_pos hl] at h
        refine ⟨_, op_catA, a, b, xs, ys, rfl, rfl, ha.1, hb.1, by rw [hxs.length, hys.length]; exact hl, fun e => ?_, fun e1 e2 => ?_, fun _ _ => RunO.newT (r := r) h (hxs.append hys)⟩
        · have e' := hxs.nil_iff.mp e
          subst e'
          exact h.plain r (.tup hb hys)
        · have e' := hys.nil_iff.mp e2
          subst e'
          rw [List.append_nil] at h
          exact h.plain r (.tup ha hxs)
      · rw [if_neg hl] at h; exact h.elim
    | _ => exact h.elim
  | @obj a n hn => cases he with
    | @obj b m hm =>
      cases h1 : rdL g n with
      | none => simp only [opAdd, h1] at h; exact h.elim
      | some xs =>
        cases h2 : rdL g m with
        | none => simp only [opAdd, h1, h2] at h; exact h.elim
        | some ys =>
          simp only [opAdd, h1, h2] at h
          by_cases hl : xs.length + ys.length ≤ sizeLine
          · rw [if_pos hl] at h
            obtain ⟨vs, e1, d1⟩ := r.rdL h1 hn
            obtain ⟨us, e2, d2⟩ := r.rdL h2 hm
            exact ⟨_, op_cat, a, b, vs, us, rfl, rfl, e1, e2, by rw [d1.length, d2.length]; exact hl, RunO.newL (r := r) h (d1.append d2)⟩
          · rw [if_neg hl] at h; exact h.elim
    | _ => exact h.elim
  | _ => exact h.elim
theorem or_sub : OpR X (binaryOp .Sub) (rF2 X.mg X.K opSub) := OpR.any fun x y H Q ⟨ι, g, d, e, r, hd, he, h⟩ => by
  cases hd with
  | int i => cases he with
    | int j => exact ⟨_, op_sub, i, j, rfl, rfl, h.plain r (.int _)⟩
    | _ => exact h.elim
  | _ => exact h.elim
theorem or_mul : OpR X (binaryOp .Mult) (rF2 X.mg X.K opMul) := OpR.any fun x y H Q ⟨ι, g, d, e, r, hd, he, h⟩ => by
  cases hd with
  | int i => cases he with
    | int j =>
      have h : RunO X.mg X.K ι H Q (if CMul i j then some (.int (i * j), g) else none) := h
      by_cases hl : CMul i j
      · rw [if_pos hl] at h
        exact ⟨_, op_mul, i, j, rfl, rfl, hl, h.plain r (.int _)⟩
      · rw [if_neg hl] at h; exact h.elim
    | _ => exact h.elim
  | @tup a xs ds ha hxs => cases he with
    | int k =>
      have h : RunO X.mg X.K ι H Q (if ds ≠ [] ∧ 2 ≤ k ∧ k ≤ 1000 ∧ ds.length ≤ 1000 then some (.tup (List.replicate k.toNat ds).flatten, g) else none) := h
      by_cases hl : ds ≠ [] ∧ 2 ≤ k ∧ k ≤ 1000 ∧ ds.length ≤ 1000
      · rw [if_pos hl] at h
        have e := hxs.length
        have hne : xs ≠ [] := fun q => hl.1 (hxs.nil_iff.mp q)
        exact ⟨_, op_repT, a, k, xs, rfl, rfl, ha.1, hne, hl.2.1, hl.2.2.1, by rw [e]; exact hl.2.2.2, RunO.newT (r := r) h (rep_den hxs _)⟩
      · rw [if_neg hl] at h; exact h.elim
    | _ => exact h.elim
  | @obj a n hn => cases he with
    | int k =>
      cases h1 : rdL g n with
      | none => simp only [opMul, h1] at h; exact h.elim
      | some xs =>
        simp only [opMul, h1] at h
        by_cases hl : -(2 ^ 63) ≤ k ∧ k < 2 ^ 63 ∧ xs.length * k.toNat ≤ sizeLine
        · rw [if_pos hl] at h
          obtain ⟨vs, e1, d1⟩ := r.rdL h1 hn
          exact ⟨_, op_rep, a, k, vs, rfl, rfl, e1, hl.1, hl.2.1, by rw [d1.length]; exact hl.2.2, RunO.newL (r := r) h (rep_den d1 _)⟩
        · rw [if_neg hl] at h; exact h.elim
    | _ => exact h.elim
  | _ => exact h.elim
theorem or_fdiv : OpR X (binaryOp .FloorDiv) (rF2 X.mg X.K opFdiv) := OpR.any fun x y H Q ⟨ι, g, d, e, r, hd, he, h⟩ => by
  cases hd with
  | int i => cases he with
    | int j =>
      have h : RunO X.mg X.K ι H Q (if 0 < j ∧ j < 1073741824 then some (.int (i / j), g) else none) := h
      by_cases hl : 0 < j ∧ j < 1073741824
      · rw [if_pos hl] at h
        exact ⟨_, op_fdiv, i, j, rfl, rfl, hl, h.plain r (.int _)⟩
      · rw [if_neg hl] at h; exact h.elim
    | _ => exact h.elim
  | _ => exact h.elim
theorem or_mod : OpR X (binaryOp .Mod) (rF2 X.mg X.K opMod) := OpR.any fun x y H Q ⟨ι, g, d, e, r, hd, he, h⟩ => by
  cases hd with
  | int i => cases he with
    | int j =>
      have h : RunO X.mg X.K ι H Q (if 0 < j then some (.int (i % j), g) else none) := by rw [← imod_eq]; exact h
      by_cases hl : 0 < j
      · rw [if_pos hl] at h
        exact ⟨_, op_mod, i, j, rfl, rfl, hl, h.plain r (.int _)⟩
      · rw [if_neg hl] at h; exact h.elim
    | _ => exact h.elim
  | _ => exact h.elim
theorem or_pow : OpR X (binaryOp .Pow) (rF2 X.mg X.K opPow) := OpR.any fun x y H Q ⟨ι, g, d, e, r, hd, he, h⟩ => by
  cases hd with
  | int i => cases he with
    | int j =>
      have h : RunO X.mg X.K ι H Q (if 0 ≤ j ∧ j ≤ 1000000 ∧ i.natAbs < 2 ^ 64 then some (.int (i ^ j.toNat), g) else none) := h
      by_cases hl : 0 ≤ j ∧ j ≤ 1000000 ∧ i.natAbs < 2 ^ 64
      · rw [if_pos hl] at h
        exact ⟨_, op_pow, i, j, rfl, rfl, hl, h.plain r (.int _)⟩
      · rw [if_neg hl] at h; exact h.elim
    | _ => exact h.elim
  | _ => exact h.elim
def opNeg : Op1 := fun d g => match d with
  | .int i => some (.int (-i), g)
  | _ => none
theorem se_neg {W : WX} {pos : Pos} {e : Expr} {m : EM} (ha : SE X W e m) : SE X W (.UnaryOp .USub e pos) (mOp1 opNeg m) := ⟨PE.imp (pe_un un_neg ha.pe) fun σ H Q h => by
  obtain ⟨ι, g, ρ, r, hρ, h⟩ := tF_op1 σ H Q h
  refine ⟨ι, g, ρ, r, hρ, RunX.mono h fun v H1 ⟨ι1, g1, d, r1, hd, h1⟩ => ?_⟩
  cases hd with
  | int i => exact ⟨i, rfl, h1.plain r1 (.int _)⟩
  | _ => exact h1.elim⟩
end

/-! ### == of data -/
mutual
def D.py : D → PyData
  | .non => .none
  | .bl b => .bool b
  | .int i => .int i
  | .str x => .str x
  | .tup ds => .tuple (D.pys ds)
  | .obj _ => .none
  | .rol ds => .list (D.pys ds)
def D.pys : List D → List PyData
  | [] => []
  | d :: ds => D.py d :: D.pys ds
end
/-- data without objects, at most so deep -/
def D.fit : Nat → D → Bool
  | _, .non => true
  | _, .bl _ => true
  | _, .int _ => true
  | _, .str x => PyData.strOk x
  | 0, _ => false
  | k + 1, .tup ds => ds.all (D.fit k)
  | _, .obj _ => false
  | k + 1, .rol ds => ds.all (D.fit k)
/-- lists written out -/
def snapD (g : GH) : Nat → D → Option D
  | _, .non => some .non
  | _, .bl b => some (.bl b)
  | _, .int b => some (.int b)
  | _, .str b => some (.str b)
  | 0, _ => none
  | k + 1, .tup ds => (ds.mapM (snapD g k)).map .tup
  | k + 1, .rol ds => (ds.mapM (snapD g k)).map .rol
  | k + 1, .obj n => match rdL g n with
    | some ds => (ds.mapM (snapD g k)).map .rol
    | none => none
theorem D.fit_spec : ∀ (k : Nat) (d : D), D.fit k d = true → d.py.canLay0 = true ∧ d.py.depth ≤ k
  | k, .non, _ => by simp [D.py, PyData.canLay0, PyData.depth]
  | k, .bl _, _ => by simp [D.py, PyData.canLay0, PyData.depth]
  | k, .int _, _ => by simp [D.py, PyData.canLay0, PyData.depth]
  | k, .str x, h => by
    have h' : PyData.strOk x = true := by cases k <;> simpa [D.fit] using h
    simp [D.py, PyData.canLay0, PyData.depth, h']
  | 0, .tup ds, h => by simp [D.fit] at h
  | 0, .obj _, h => by simp [D.fit] at h
  | 0, .rol _, h => by simp [D.fit] at h
  | k + 1, .obj _, h => by simp [D.fit] at h
  | k + 1, .tup ds, h => by
    have h' : ds.all (D.fit k) = true := by simpa [D.fit] using h
    have key : ∀ l : List D, l.all (D.fit k) = true → PyData.canLayAll0 (D.pys l) = true ∧ PyData.depthAll (D.pys l) ≤ k := by
      intro l
      induction l with
      | nil => intro _; simp [D.pys, PyData.canLayAll0, PyData.depthAll]
      | cons a l ih =>
        intro q
        rw [List.all_cons, Bool.and_eq_true] at q
        have h1 := D.fit_spec k a q.1
        have h2 := ih q.2
        simp only [D.pys, PyData.canLayAll0, PyData.depthAll, h1.1, h2.1, Bool.and_self, true_and]
        omega
    have := key ds h'
    simp only [D.py, PyData.canLay0, PyData.depth, this.1, true_and]
    omega
  | k + 1, .rol ds, h => by
    have h' : ds.all (D.fit k) = true := by simpa [D.fit] using h
    have key : ∀ l : List D, l.all (D.fit k) = true → PyData.canLayAll0 (D.pys l) = true ∧ PyData.depthAll (D.pys l) ≤ k := by
      intro l
      induction l with
      | nil => intro _; simp [D.pys, PyData.canLayAll0, PyData.depthAll]
      | cons a l ih =>
        intro q
        rw [List.all_cons, Bool.and_eq_true] at q
        have h1 := D.fit_spec k a q.1
        have h2 := ih q.2
        simp only [D.pys, PyData.canLayAll0, PyData.depthAll, h1.1, h2.1, Bool.and_self, true_and]
        omega
    have := key ds h'
    simp only [D.py, PyData.canLay0, PyData.depth, this.1, true_and]
    omega
theorem D.fit_shaped {k : Nat} {d : D} (hk : k ≤ 64) (h : D.fit k d = true) : SeqAt.shaped d.py = true := by
  have q := D.fit_spec k d h
  show (d.py.canLay0 && decide (d.py.depth ≤ 64)) = true
  rw [Bool.and_eq_true]
  exact ⟨q.1, decide_eq_true (by omega)⟩
section
variable {mg : Str → Option Value} {K : PySem.W.Frag} {ι : List Addr} {g : GH} {H : Hp}
theorem snap_dp (r : Rel mg K ι g H) : ∀ (k : Nat) (d d' : D) (v : V), snapD g k d = some d' → Den K ι H v d → Dp K H v d'.py
  | k, .non, d', v, h, q => by
    cases q
    have : d' = .non := by cases k <;> simp [snapD] at h <;> exact h.symm
    subst this; simp only [D.py]; exact .non
  | k, .bl b, d', v, h, q => by
    cases q
    have : d' = .bl b := by cases k <;> simp [snapD] at h <;> exact h.symm
    subst this; simp only [D.py]; exact .bl b
  | k, .int b, d', v, h, q => by
    cases q
    have : d' = .int b := by cases k <;> simp [snapD] at h <;> exact h.symm
    subst this; simp only [D.py]; exact .int b
  | k, .str b, d', v, h, q => by
    cases q
    have : d' = .str b := by cases k <;> simp [snapD] at h <;> exact h.symm
    subst this; simp only [D.py]; exact .str b
  | 0, .tup ds, d', v, h, q => by simp [snapD] at h
  | 0, .obj ds, d', v, h, q => by simp [snapD] at h
  | 0, .rol ds, d', v, h, q => by simp [snapD] at h
  | k + 1, .tup ds, d', v, h, q => by
    have key : ∀ (l l' : List D) (vs : List V), l.mapM (snapD g k) = some l' → DenAll K ι H vs l → DpAll K H vs (D.pys l') := by
      intro l
      induction l with
      | nil => intro l' vs e q; cases q; simp at e; subst e; exact .nil
      | cons a l ih =>
        intro l' vs e q
        cases q with
        | cons q1 q2 =>
          rw [List.mapM_cons] at e
          cases e1 : snapD g k a with
          | none => rw [e1] at e; cases e
          | some a' =>
            cases e2 : l.mapM (snapD g k) with
            | none => rw [e1, e2] at e; cases e
            | some l2 =>
              rw [e1, e2] at e
              cases e
              exact .cons (snap_dp r k a a' _ e1 q1) (ih l2 _ e2 q2)
    simp only [snapD] at h
    cases e : ds.mapM (snapD g k) with
    | none => rw [e] at h; cases h
    | some l' =>
      rw [e] at h
      cases h
      cases q with
      | tup ha hds => simp only [D.py]; exact .tup ha.1 (key _ _ _ e hds)
  | k + 1, .rol ds, d', v, h, q => by
    have key : ∀ (l l' : List D) (vs : List V), l.mapM (snapD g k) = some l' → DenAll K ι H vs l → DpAll K H vs (D.pys l') := by
      intro l
      induction l with
      | nil => intro l' vs e q; cases q; simp at e; subst e; exact .nil
      | cons a l ih =>
        intro l' vs e q
        cases q with
        | cons q1 q2 =>
          rw [List.mapM_cons] at e
          cases e1 : snapD g k a with
          | none => rw [e1] at e; cases e
          | some a' =>
            cases e2 : l.mapM (snapD g k) with
            | none => rw [e1, e2] at e; cases e
            | some l2 =>
              rw [e1, e2] at e
              cases e
              exact .cons (snap_dp r k a a' _ e1 q1) (ih l2 _ e2 q2)
    simp only [snapD] at h
    cases e : ds.mapM (snapD g k) with
    | none => rw [e] at h; cases h
    | some l' =>
      rw [e] at h
      cases h
      cases q with
      | rol ha hds => simp only [D.py]; exact .lst (SqP.sq ha) (key _ _ _ e hds)
  | k + 1, .obj n, d', v, h, q => by
    have key : ∀ (l l' : List D) (vs : List V), l.mapM (snapD g k) = some l' → DenAll K ι H vs l → DpAll K H vs (D.pys l') := by
      intro l
      induction l with
      | nil => intro l' vs e q; cases q; simp at e; subst e; exact .nil
      | cons a l ih =>
        intro l' vs e q
        cases q with
        | cons q1 q2 =>
          rw [List.mapM_cons] at e
          cases e1 : snapD g k a with
          | none => rw [e1] at e; cases e
          | some a' =>
            cases e2 : l.mapM (snapD g k) with
            | none => rw [e1, e2] at e; cases e
            | some l2 =>
              rw [e1, e2] at e
              cases e
              exact .cons (snap_dp r k a a' _ e1 q1) (ih l2 _ e2 q2)
    simp only [snapD] at h
    cases e0 : rdL g n with
    | none => rw [e0] at h; cases h
    | some ds =>
      rw [e0] at h
      simp only at h
      cases e : ds.mapM (snapD g k) with
      | none => rw [e] at h; cases h
      | some l' =>
        rw [e] at h
        cases h
        obtain ⟨a, rfl, ha⟩ := q.objAt
        obtain ⟨xs, hx, hd⟩ := r.rdL e0 ha
        simp only [D.py]
        exact .lst (SqL.of hx) (key _ _ _ e hd)
end
/-- a == b by data -/
def peq (d e : D) : Bool := PyData.eqv d.py e.py
def opEqB (d e : D) (g : GH) : Option Bool := match snapD g 16 d, snapD g 16 e with
  | some d', some e' => if D.fit 16 d' = true ∧ D.fit 16 e' = true then some (peq d' e') else none
  | _, _ => none
def opEq : Op2 := fun d e g => (opEqB d e g).map fun b => (.bl b, g)
def opNe : Op2 := fun d e g => (opEqB d e g).map fun b => (.bl (!b), g)
section
variable {X : Cx}
theorem opEqB_spec {mg : Str → Option Value} {K : PySem.W.Frag} {ι : List Addr} {g : GH} {H : Hp} {d e : D} {b : Bool} {x y : V} (r : Rel mg K ι g H) (h : opEqB d e g = some b) (hd : Den K ι H x d) (he : Den K ι H y e) :
    ∃ p q, Dp K H x p ∧ Dp K H y q ∧ SeqAt.shaped p = true ∧ SeqAt.shaped q = true ∧ PyData.eqv p q = b := by
  unfold opEqB at h
  cases e1 : snapD g 16 d with
  | none => rw [e1] at h; cases h
  | some d' =>
    cases e2 : snapD g 16 e with
    | none => rw [e1, e2] at h; cases h
    | some e' =>
      rw [e1, e2] at h
      simp only at h
      by_cases hf : D.fit 16 d' = true ∧ D.fit 16 e' = true
      · rw [if_pos hf] at h
        cases h
        exact ⟨_, _, snap_dp r _ _ _ _ e1 hd, snap_dp r _ _ _ _ e2 he, D.fit_shaped (by decide) hf.1, D.fit_shaped (by decide) hf.2, rfl⟩
      · rw [if_neg hf] at h; cases h
theorem or_eq (hu : X.A.units + 64 < cLine) : OpR X (compareOp .Eq) (rF2 X.mg X.K opEq) := OpR.imp (op_eqD hu) fun x y H Q ⟨ι, g, d, e, r, hd, he, h⟩ => by
  unfold opEq at h
  cases q : opEqB d e g with
  | none => rw [q] at h; exact h.elim
  | some b =>
    rw [q] at h
    obtain ⟨p, q', h1, h2, h3, h4, h5⟩ := opEqB_spec r q hd he
    exact ⟨p, q', h1, h2, h3, h4, by rw [h5]; exact RunO.plain r h (.bl b)⟩
theorem or_ne (hu : X.A.units + 64 < cLine) : OpR X (compareOp .NotEq) (rF2 X.mg X.K opNe) := OpR.imp (op_neD hu) fun x y H Q ⟨ι, g, d, e, r, hd, he, h⟩ => by
  unfold opNe at h
  cases q : opEqB d e g with
  | none => rw [q] at h; exact h.elim
  | some b =>
    rw [q] at h
    obtain ⟨p, q', h1, h2, h3, h4, h5⟩ := opEqB_spec r q hd he
    exact ⟨p, q', h1, h2, h3, h4, by rw [h5]; exact RunO.plain r h (.bl (!b))⟩

/-! ### < <= > >= -/
def opLt : Op2 := fun d e g => match d, e with
  | .int i, .int j => some (.bl (decide (i < j)), g)
  | _, _ => none
def opLe : Op2 := fun d e g => match d, e with
  | .int i, .int j => some (.bl (decide (i ≤ j)), g)
  | _, _ => none
def opGt : Op2 := fun d e g => match d, e with
  | .int i, .int j => some (.bl (decide (j < i)), g)
  | _, _ => none
def opGe : Op2 := fun d e g => match d, e with
  | .int i, .int j => some (.bl (decide (j ≤ i)), g)
  | _, _ => none
theorem or_lt : OpR X (compareOp .Lt) (rF2 X.mg X.K opLt) := OpR.imp op_lt fun x y H Q ⟨ι, g, d, e, r, hd, he, h⟩ => by
  cases hd with
  | int i => cases he with
    | int j => exact ⟨i, j, rfl, rfl, RunO.plain r h (.bl _)⟩
    | _ => exact h.elim
  | _ => exact h.elim
theorem or_le : OpR X (compareOp .LtE) (rF2 X.mg X.K opLe) := OpR.imp op_le fun x y H Q ⟨ι, g, d, e, r, hd, he, h⟩ => by
  cases hd with
  | int i => cases he with
    | int j => exact ⟨i, j, rfl, rfl, RunO.plain r h (.bl _)⟩
    | _ => exact h.elim
  | _ => exact h.elim
theorem or_gt : OpR X (compareOp .Gt) (rF2 X.mg X.K opGt) := OpR.imp op_gt fun x y H Q ⟨ι, g, d, e, r, hd, he, h⟩ => by
  cases hd with
  | int i => cases he with
    | int j => exact ⟨i, j, rfl, rfl, RunO.plain r h (.bl _)⟩
    | _ => exact h.elim
  | _ => exact h.elim
theorem or_ge : OpR X (compareOp .GtE) (rF2 X.mg X.K opGe) := OpR.imp op_ge fun x y H Q ⟨ι, g, d, e, r, hd, he, h⟩ => by
  cases hd with
  | int i => cases he with
    | int j => exact ⟨i, j, rfl, rfl, RunO.plain r h (.bl _)⟩
    | _ => exact h.elim
  | _ => exact h.elim
/-- is None, is not None -/
def opIsN : Op2 := fun d e g => match e with
  | .non => some (.bl (decide (d = .non)), g)
  | _ => none
def opNotN : Op2 := fun d e g => match e with
  | .non => some (.bl (!decide (d = .non)), g)
  | _ => none
theorem den_non {K : PySem.W.Frag} {ι : List Addr} {H : Hp} {x : V} {d : D} (h : Den K ι H x d) : decide (x = .non) = decide (d = .non) := by
  cases h <;> simp
theorem or_isN : OpR X (compareOp .Is) (rF2 X.mg X.K opIsN) := OpR.imp op_isN fun x y H Q ⟨ι, g, d, e, r, hd, he, h⟩ => by
  cases he with
  | non => exact ⟨rfl, by rw [den_non hd]; exact RunO.plain r h (.bl _)⟩
  | _ => exact h.elim
theorem or_notN : OpR X (compareOp .IsNot) (rF2 X.mg X.K opNotN) := OpR.imp op_notN fun x y H Q ⟨ι, g, d, e, r, hd, he, h⟩ => by
  cases he with
  | non => exact ⟨rfl, by rw [den_non hd]; exact RunO.plain r h (.bl _)⟩
  | _ => exact h.elim
end
end L3

/-! L3E: in, subscripts, slices, dicts. -/
namespace L3
open PySem PySem.Spec L2

/-! ### keys -/
def keyK : D → Option Key
  | .int i => some (.inl i)
  | .str x => some (.inr x)
  | _ => none
def keyTs : List D → Option (List Key)
  | [] => some []
  | d :: ds => match keyK d, keyTs ds with
    | some k, some ks => some (k :: ks)
    | _, _ => none
/-- a tuple as a key: one item at least -/
def keyT : D → Option (List Key)
  | .tup (d :: ds) => keyTs (d :: ds)
  | _ => none
def keyOk (t : Bool) (d : D) : Bool := if t then (keyT d).isSome else (keyK d).isSome
theorem keyK_spec {d : D} {k : Key} (h : keyK d = some k) : d = kD k := by
  cases d <;> simp [keyK] at h <;> subst h <;> rfl
theorem keyTs_spec : ∀ {ds : List D} {ks : List Key}, keyTs ds = some ks → ds = ks.map kD
  | [], ks, h => by simp [keyTs] at h; subst h; rfl
  | d :: ds, ks, h => by
    unfold keyTs at h
    cases e1 : keyK d with
    | none => rw [e1] at h; cases h
    | some k =>
      cases e2 : keyTs ds with
      | none => rw [e1, e2] at h; cases h
      | some ks' =>
        rw [e1, e2] at h
        cases h
        rw [keyK_spec e1, keyTs_spec e2]
        rfl
theorem keyT_spec {d : D} {ks : List Key} (h : keyT d = some ks) : d = .tup (ks.map kD) ∧ ks ≠ [] := by
  cases d with
  | tup ds =>
    cases ds with
    | nil => simp [keyT] at h
    | cons a l =>
      have e := keyTs_spec (show keyTs (a :: l) = some ks from h)
      refine ⟨by rw [e], fun z => ?_⟩
      subst z; simp at e
  | _ => simp [keyT] at h
theorem kD_inj {a b : Key} (h : kD a = kD b) : a = b := by
  cases a <;> cases b <;> simp [kD] at h <;> simp [h]
theorem kDs_inj {a b : List Key} (h : a.map kD = b.map kD) : a = b := by
  induction a generalizing b with
  | nil => cases b <;> simp at h ⊢
  | cons x a ih =>
    cases b with
    | nil => simp at h
    | cons y b =>
      simp at h
      rw [kD_inj h.1, ih h.2]
section
variable {K : PySem.W.Frag} {ι : List Addr} {H : Hp}
theorem den_key {v : V} {k : Key} (h : Den K ι H v (kD k)) : v = kV k := by
  cases k with
  | inl i => cases h; rfl
  | inr x => cases h; rfl
theorem den_keys : ∀ {vs : List V} {ks : List Key}, DenAll K ι H vs (ks.map kD) → vs = ks.map kV
  | _, [], h => by cases h; rfl
  | _, k :: ks, h => by
    cases h with
    | cons a b => rw [den_key a, den_keys b]; rfl
theorem key_den (k : Key) : Den K ι H (kV k) (kD k) := by
  cases k with
  | inl i => exact .int i
  | inr x => exact .str x
theorem keys_den : ∀ ks : List Key, DenAll K ι H (ks.map kV) (ks.map kD)
  | [] => .nil
  | k :: ks => .cons (key_den k) (keys_den ks)
theorem den_tupKey {v : V} {ks : List Key} (h : Den K ι H v (.tup (ks.map kD))) (ne : ks ≠ []) : ∃ b, v = .ref b ∧ H b = some (.tup (ks.map kV)) := by
  cases h with
  | @tup a xs ds ha hds =>
    have e := den_keys hds
    subst e
    exact ⟨a, rfl, ha.2 (by simpa using ne)⟩
end
/-! ### dicts as lists of pairs -/
def dGet (kvs : List (D × D)) (d : D) : Option D := (kvs.find? fun p => decide (p.1 = d)).map (·.2)
def dHas (kvs : List (D × D)) (d : D) : Bool := kvs.any fun p => decide (p.1 = d)
def dPut (kvs : List (D × D)) (d v : D) : List (D × D) := if dHas kvs d then kvs.map fun p => if p.1 = d then (p.1, v) else p else kvs ++ [(d, v)]
section
variable {κ : Type} [DecidableEq κ] {K : PySem.W.Frag} {ι : List Addr} {H : Hp} (f : κ → D) (hf : ∀ a b, f a = f b → a = b)
include hf
theorem paired_get : ∀ {ps : List (κ × V)} {kvs : List (D × D)}, Paired (fun (p : κ × V) (q : D × D) => q.1 = f p.1 ∧ Den K ι H p.2 q.2) ps kvs → ∀ k : κ,
    (∀ d, dGet kvs (f k) = some d → ∃ v, valV ps k = some v ∧ Den K ι H v d) ∧ (dGet kvs (f k) = none → valV ps k = none)
  | _, _, .nil, k => ⟨fun d h => by simp [dGet] at h, fun _ => rfl⟩
  | _, _, @Paired.cons _ _ _ p q ps kvs r t, k => by
    have ih := paired_get t k
    obtain ⟨pk, pv⟩ := p
    obtain ⟨qk, qv⟩ := q
    obtain ⟨e, hd⟩ := r
    simp only at e hd
    subst e
    by_cases hk : pk = k
    · subst hk
      refine ⟨fun d h => ?_, fun h => ?_⟩
      · simp [dGet] at h
        subst h
        exact ⟨pv, valV_pos rfl, hd⟩
      · simp [dGet] at h
    · have hne : ¬ f pk = f k := fun z => hk (hf _ _ z)
      have e1 : dGet ((f pk, qv) :: kvs) (f k) = dGet kvs (f k) := by simp [dGet, List.find?_cons, hne]
      have e2 : valV ((pk, pv) :: ps) k = valV ps k := valV_neg hk
      rw [e1, e2]
      exact ih
theorem paired_has {ps : List (κ × V)} {kvs : List (D × D)} (h : Paired (fun (p : κ × V) (q : D × D) => q.1 = f p.1 ∧ Den K ι H p.2 q.2) ps kvs) (k : κ) : (ps.any fun kv => decide (kv.1 = k)) = dHas kvs (f k) := by
  induction h with
  | nil => rfl
  | @cons p q ps kvs r t ih =>
    obtain ⟨pk, pv⟩ := p
    obtain ⟨qk, qv⟩ := q
    obtain ⟨e, hd⟩ := r
    simp only at e hd
    subst e
    unfold dHas at ih ⊢
    rw [List.any_cons, List.any_cons, ih]
    by_cases hk : pk = k
    · subst hk; simp
    · have hne : ¬ f pk = f k := fun z => hk (hf _ _ z)
      simp [hk, hne]
theorem paired_map {ps : List (κ × V)} {kvs : List (D × D)} (h : Paired (fun (p : κ × V) (q : D × D) => q.1 = f p.1 ∧ Den K ι H p.2 q.2) ps kvs) (k : κ) {v : V} {d : D} (hv : Den K ι H v d) :
    Paired (fun (p : κ × V) (q : D × D) => q.1 = f p.1 ∧ Den K ι H p.2 q.2) (ps.map fun kv => if kv.1 = k then (kv.1, v) else kv) (kvs.map fun p => if p.1 = f k then (p.1, d) else p) := by
  induction h with
  | nil => exact .nil
  | @cons p q ps kvs r t ih =>
    obtain ⟨pk, pv⟩ := p
    obtain ⟨qk, qv⟩ := q
    obtain ⟨e, hd⟩ := r
    simp only at e hd
    subst e
    rw [List.map_cons, List.map_cons]
    by_cases hk : pk = k
    · subst hk
      simp only [if_true]
      exact .cons ⟨rfl, hv⟩ ih
    · have hne : ¬ f pk = f k := fun z => hk (hf _ _ z)
      simp only [hk, hne, if_false]
      exact .cons ⟨rfl, hd⟩ ih
theorem paired_put {ps : List (κ × V)} {kvs : List (D × D)} (h : Paired (fun (p : κ × V) (q : D × D) => q.1 = f p.1 ∧ Den K ι H p.2 q.2) ps kvs) (k : κ) {v : V} {d : D} (hv : Den K ι H v d) :
    Paired (fun (p : κ × V) (q : D × D) => q.1 = f p.1 ∧ Den K ι H p.2 q.2) (putK ps k v) (dPut kvs (f k) d) := by
  have e := paired_has f hf h k
  unfold putK dPut
  rw [e]
  by_cases hb : dHas kvs (f k) = true
  · rw [if_pos hb, if_pos hb]
    exact paired_map f hf h k hv
  · rw [if_neg hb, if_neg hb]
    have app : ∀ {l1 : List (κ × V)} {l2 : List (D × D)}, Paired (fun (p : κ × V) (q : D × D) => q.1 = f p.1 ∧ Den K ι H p.2 q.2) l1 l2 → Paired (fun (p : κ × V) (q : D × D) => q.1 = f p.1 ∧ Den K ι H p.2 q.2) (l1 ++ [(k, v)]) (l2 ++ [(f k, d)]) := by
      intro l1 l2 q
      induction q with
      | nil => exact .cons ⟨rfl, hv⟩ .nil
      | cons r t ih => exact .cons r ih
    exact app h
end
theorem paired_len {α β : Type} {F : α → β → Prop} : ∀ {l1 : List α} {l2 : List β}, Paired F l1 l2 → l1.length = l2.length
  | _, _, .nil => rfl
  | _, _, .cons _ t => by simp [paired_len t]
theorem kT_inj : ∀ a b : List Key, D.tup (a.map kD) = D.tup (b.map kD) → a = b := fun a b h => kDs_inj (by simpa using h)
section
variable {mg : Str → Option Value} {K : PySem.W.Frag} {ι : List Addr} {g : GH} {H : Hp}
/-- a look-up -/
theorem dget_of (r : Rel mg K ι g H) {n : Nat} {a : Addr} {t : Bool} {kvs : List (D × D)} {y : V} {e : D} (h : rdD g n = some (t, kvs)) (ea : ι[n]? = some a) (hk : keyOk t e = true) (he : Den K ι H y e) :
    (∀ d, dGet kvs e = some d → ∃ v, DGet H a y (some v) ∧ Den K ι H v d) ∧ (dGet kvs e = none → DGet H a y none) := by
  obtain ⟨u, rd, dc⟩ := r.rdD h ea
  rcases dc with ⟨rfl, ps, rfl, pr⟩ | ⟨rfl, ps, rfl, pr⟩
  · cases q : keyK e with
    | none => simp [keyOk, q] at hk
    | some k =>
      have e1 := keyK_spec q
      subst e1
      have hy := den_key he
      subst hy
      have z := paired_get kD (fun a b => kD_inj) pr k
      refine ⟨fun d hd => ?_, fun hd => .inl ⟨ps, k, rd, rfl, (z.2 hd).symm⟩⟩
      obtain ⟨v, h1, h2⟩ := z.1 d hd
      exact ⟨v, .inl ⟨ps, k, rd, rfl, h1.symm⟩, h2⟩
  · cases q : keyT e with
    | none => simp [keyOk, q] at hk
    | some k =>
      obtain ⟨e1, ne⟩ := keyT_spec q
      subst e1
      obtain ⟨b, rfl, hb⟩ := den_tupKey he ne
      have z := paired_get (fun ks : List Key => D.tup (ks.map kD)) kT_inj pr k
      refine ⟨fun d hd => ?_, fun hd => .inr ⟨ps, k, b, rd, rfl, hb, (z.2 hd).symm⟩⟩
      obtain ⟨v, h1, h2⟩ := z.1 d hd
      exact ⟨v, .inr ⟨ps, k, b, rd, rfl, hb, h1.symm⟩, h2⟩
/-- a store -/
theorem dput_of (r : Rel mg K ι g H) {n : Nat} {a : Addr} {t : Bool} {kvs : List (D × D)} {y v : V} {e d : D} (h : g[n]? = some (.dct t kvs)) (ea : ι[n]? = some a) (hk : keyOk t e = true) (hl : kvs.length < sizeLine) (he : Den K ι H y e) (hv : Den K ι H v d) :
    ∃ H', DPut H a y v H' ∧ Step mg K ι H ι (g.set n (.dct t (dPut kvs e d))) H' := by
  obtain ⟨u, hu, dc⟩ := r.at_ n _ a h ea
  rcases dc with ⟨rfl, ps, rfl, pr⟩ | ⟨rfl, ps, rfl, pr⟩
  · cases q : keyK e with
    | none => simp [keyOk, q] at hk
    | some k =>
      have e1 := keyK_spec q
      subst e1
      have hy := den_key he
      subst hy
      refine ⟨_, .inl ⟨ps, k, hu, rfl, by rw [paired_len pr]; exact hl, rfl⟩, Step.write r ea (fun H' hT hP hH => ?_) fun ob x z => by rw [hu] at z; cases z⟩
      refine ⟨_, hH, .inl ⟨rfl, _, rfl, ?_⟩⟩
      exact paired_imp (fun p q h => ⟨h.1, Den.mono (fun _ _ h => h) hT hP _ _ h.2⟩) (paired_put kD (fun a b => kD_inj) pr k hv)
  · cases q : keyT e with
    | none => simp [keyOk, q] at hk
    | some k =>
      obtain ⟨e1, ne⟩ := keyT_spec q
      subst e1
      obtain ⟨b, rfl, hb⟩ := den_tupKey he ne
      refine ⟨_, .inr ⟨ps, k, b, hu, rfl, hb, by rw [paired_len pr]; exact hl, rfl⟩, Step.write r ea (fun H' hT hP hH => ?_) fun ob x z => by rw [hu] at z; cases z⟩
      refine ⟨_, hH, .inr ⟨rfl, _, rfl, ?_⟩⟩
      exact paired_imp (fun p q h => ⟨h.1, Den.mono (fun _ _ h => h) hT hP _ _ h.2⟩) (paired_put (fun ks : List Key => D.tup (ks.map kD)) kT_inj pr k hv)
end

/-! ### in, not in -/
def opInB (d e : D) (g : GH) : Option Bool := match e with
  | .str z => match d with
    | .str x => some (!(Builtin.Str.occurrences z x 0 z.length 1).isEmpty)
    | _ => none
  | .obj n => match rdD g n with
    | some (t, kvs) => if keyOk t d = true then some (dGet kvs d).isSome else none
    | none => match snapD g 16 d, snapD g 16 e with
      | some d', some (.rol es) => if D.fit 16 d' = true ∧ D.fit 16 (.rol es) = true then some (es.any fun z => peq z d') else none
      | _, _ => none
  | _ => match snapD g 16 d, snapD g 16 e with
    | some d', some (.rol es) => if D.fit 16 d' = true ∧ D.fit 16 (.rol es) = true then some (es.any fun z => peq z d') else none
    | some d', some (.tup es) => if D.fit 16 d' = true ∧ D.fit 16 (.tup es) = true then some (es.any fun z => peq z d') else none
    | _, _ => none
def opIn : Op2 := fun d e g => (opInB d e g).map fun b => (.bl b, g)
def opNotIn : Op2 := fun d e g => (opInB d e g).map fun b => (.bl (!b), g)
theorem pys_any (d : D) : ∀ es : List D, ((D.pys es).any fun z => PyData.eqv z d.py) = es.any fun z => peq z d
  | [] => rfl
  | e :: es => by
    simp only [D.pys, List.any_cons, pys_any d es]
    rfl
section
variable {X : Cx}
/-- data in a tuple of data -/
def rInTup (K : PySem.W.Frag) (neg : Bool) : R2 := fun x y H Q => ∃ d ds, Dp K H x d ∧ Dp K H y (.tuple ds) ∧ SeqAt.shaped d = true ∧ SeqAt.shaped (.tuple ds) = true ∧ Q (.bl (if neg then !ds.any fun z => PyData.eqv z d else ds.any fun z => PyData.eqv z d)) H
theorem op_inTup (hu : X.A.units + 65 < cLine) : OpR X (compareOp .In) (rInTup X.K false) := by
  intro pins s σ H x y v u Q I rx ry h
  obtain ⟨d, ds, hd, he, sd, se, q⟩ := h
  obtain ⟨as, r1⟩ := Dp.reads I d x v hd rx
  obtain ⟨bs, r2⟩ := Dp.reads I (.tuple ds) y u he ry
  refine SeqAt.in_tuple_reads r2 r1 (SeqAt.canLay_of_shaped se) (SeqAt.canLay_of_shaped sd) ?_ ⟨.bl _, H, I, rfl, q⟩
  have := SeqAt.depth_of_shaped sd
  have h2 : min (PyData.depthAll ds) d.depth ≤ d.depth := Nat.min_le_right _ _
  omega
theorem op_notInTup (hu : X.A.units + 65 < cLine) : OpR X (compareOp .NotIn) (rInTup X.K true) := by
  intro pins s σ H x y v u Q I rx ry h
  obtain ⟨d, ds, hd, he, sd, se, q⟩ := h
  obtain ⟨as, r1⟩ := Dp.reads I d x v hd rx
  obtain ⟨bs, r2⟩ := Dp.reads I (.tuple ds) y u he ry
  refine SeqAt.notIn_tuple_reads r2 r1 (SeqAt.canLay_of_shaped se) (SeqAt.canLay_of_shaped sd) ?_ ⟨.bl _, H, I, rfl, q⟩
  have := SeqAt.depth_of_shaped sd
  have h2 : min (PyData.depthAll ds) d.depth ≤ d.depth := Nat.min_le_right _ _
  omega
def rDictIn (neg : Bool) : R2 := fun x y H Q => ∃ a o, y = .ref a ∧ DGet H a x o ∧ Q (.bl (if neg then !o.isSome else o.isSome)) H
theorem op_dictIn (hu : X.A.units + 1 < cLine) : OpR X (compareOp .In) (rDictIn false) := fun pins s σ H x y v u Q I rx ry ⟨a, o, e, dg, q⟩ => by
  subst e
  cases ry
  exact d_in hu I dg rx fun s' I' => ⟨.bl _, H, I', rfl, q⟩
theorem op_dictNotIn (hu : X.A.units + 1 < cLine) : OpR X (compareOp .NotIn) (rDictIn true) := fun pins s σ H x y v u Q I rx ry ⟨a, o, e, dg, q⟩ => by
  subst e
  cases ry
  exact d_notIn hu I dg rx fun s' I' => ⟨.bl _, H, I', rfl, q⟩
/-- what a membership test comes to -/
theorem in_cases {K : PySem.W.Frag} {mg : Str → Option Value} {ι : List Addr} {g : GH} {H : Hp} {d e : D} {b : Bool} {x y : V} (r : Rel mg K ι g H) (h : opInB d e g = some b) (hd : Den K ι H x d) (he : Den K ι H y e) :
    (∃ z w, x = .str z ∧ y = .str w ∧ b = !(Builtin.Str.occurrences w z 0 w.length 1).isEmpty) ∨ (∃ a o, y = .ref a ∧ DGet H a x o ∧ b = o.isSome) ∨
    (∃ p ps, Dp K H x p ∧ Dp K H y (.list ps) ∧ SeqAt.shaped p = true ∧ SeqAt.shaped (.list ps) = true ∧ b = ps.any fun z => PyData.eqv z p) ∨
    (∃ p ps, Dp K H x p ∧ Dp K H y (.tuple ps) ∧ SeqAt.shaped p = true ∧ SeqAt.shaped (.tuple ps) = true ∧ b = ps.any fun z => PyData.eqv z p) := by
  have lists : ∀ (o : Option Bool), o = some b → (o = match snapD g 16 d, snapD g 16 e with
      | some d', some (.rol es) => if D.fit 16 d' = true ∧ D.fit 16 (.rol es) = true then some (es.any fun z => peq z d') else none
      | _, _ => none) → ∃ p ps, Dp K H x p ∧ Dp K H y (.list ps) ∧ SeqAt.shaped p = true ∧ SeqAt.shaped (.list ps) = true ∧ b = ps.any fun z => PyData.eqv z p := by
    intro o ho q
    subst ho
    cases e1 : snapD g 16 d with
    | none => rw [e1] at q; cases q
    | some d' =>
      cases e2 : snapD g 16 e with
      | none => rw [e1, e2] at q; cases q
      | some e' =>
        rw [e1, e2] at q
        cases e' with
        | rol es =>
          simp only at q
          by_cases hf : D.fit 16 d' = true ∧ D.fit 16 (.rol es) = true
          · rw [if_pos hf] at q
            cases q
            have s1 := D.fit_shaped (by decide) hf.1
            have s2 := D.fit_shaped (by decide) hf.2
            have z2 := snap_dp r _ _ _ _ e2 he
            simp only [D.py] at s2 z2
            exact ⟨_, _, snap_dp r _ _ _ _ e1 hd, z2, s1, s2, (pys_any d' es).symm⟩
          · rw [if_neg hf] at q; cases q
        | _ => cases q
  have tups : ∀ (o : Option Bool), o = some b → (o = match snapD g 16 d, snapD g 16 e with
      | some d', some (.tup es) => if D.fit 16 d' = true ∧ D.fit 16 (.tup es) = true then some (es.any fun z => peq z d') else none
      | _, _ => none) → ∃ p ps, Dp K H x p ∧ Dp K H y (.tuple ps) ∧ SeqAt.shaped p = true ∧ SeqAt.shaped (.tuple ps) = true ∧ b = ps.any fun z => PyData.eqv z p := by
    intro o ho q
    subst ho
    cases e1 : snapD g 16 d with
    | none => rw [e1] at q; cases q
    | some d' =>
      cases e2 : snapD g 16 e with
      | none => rw [e1, e2] at q; cases q
      | some e' =>
        rw [e1, e2] at q
        cases e' with
        | tup es =>
          simp only at q
          by_cases hf : D.fit 16 d' = true ∧ D.fit 16 (.tup es) = true
          · rw [if_pos hf] at q
            cases q
            have s1 := D.fit_shaped (by decide) hf.1
            have s2 := D.fit_shaped (by decide) hf.2
            have z2 := snap_dp r _ _ _ _ e2 he
            simp only [D.py] at s2 z2
            exact ⟨_, _, snap_dp r _ _ _ _ e1 hd, z2, s1, s2, (pys_any d' es).symm⟩
          · rw [if_neg hf] at q; cases q
        | _ => cases q
  unfold opInB at h
  cases e with
  | str z =>
    cases d with
    | str w =>
      cases hd; cases he
      simp only [Option.some.injEq] at h
      exact .inl ⟨w, z, rfl, rfl, h.symm⟩
    | _ => cases h
  | obj n =>
    simp only at h
    cases e1 : rdD g n with
    | none => rw [e1] at h; exact .inr (.inr (.inl (lists _ h rfl)))
    | some p =>
      obtain ⟨t, kvs⟩ := p
      rw [e1] at h
      simp only at h
      by_cases hk : keyOk t d = true
      · rw [if_pos hk] at h
        cases h
        obtain ⟨a, rfl, ha⟩ := he.objAt
        have z := dget_of r e1 ha hk hd
        cases q : dGet kvs d with
        | none => exact .inr (.inl ⟨a, none, rfl, z.2 q, rfl⟩)
        | some w =>
          obtain ⟨v, h1, _⟩ := z.1 w q
          exact .inr (.inl ⟨a, some v, rfl, h1, rfl⟩)
      · rw [if_neg hk] at h; cases h
  | tup ds =>
    refine .inr (.inr (.inr (tups _ h ?_)))
    cases e1 : snapD g 16 d with
    | none => rfl
    | some d' =>
      cases e2 : snapD g 16 (.tup ds) with
      | none => rfl
      | some e' =>
        cases e' with
        | rol _ =>
          simp only [snapD] at e2
          cases e3 : ds.mapM (snapD g 15) with
          | none => rw [e3] at e2; cases e2
          | some l => rw [e3] at e2; cases e2
        | _ => rfl
  | rol ds =>
    refine .inr (.inr (.inl (lists _ h ?_)))
    cases e1 : snapD g 16 d with
    | none => rfl
    | some d' =>
      cases e2 : snapD g 16 (.rol ds) with
      | none => rfl
      | some e' =>
        cases e' with
        | tup _ =>
          simp only [snapD] at e2
          cases e3 : ds.mapM (snapD g 15) with
          | none => rw [e3] at e2; cases e2
          | some l => rw [e3] at e2; cases e2
        | _ => rfl
  | non => cases e1 : snapD g 16 d <;> simp [e1, snapD] at h
  | bl _ => cases e1 : snapD g 16 d <;> simp [e1, snapD] at h
  | int _ => cases e1 : snapD g 16 d <;> simp [e1, snapD] at h
theorem or_in (hu : X.A.units + 65 < cLine) : OpR X (compareOp .In) (rF2 X.mg X.K opIn) := OpR.any fun x y H Q ⟨ι, g, d, e, r, hd, he, h⟩ => by
  unfold opIn at h
  cases q : opInB d e g with
  | none => rw [q] at h; exact h.elim
  | some b =>
    rw [q] at h
    have hq : Q (.bl b) H := RunO.plain r h (.bl b)
    rcases in_cases r q hd he with ⟨z, w, h1, h2, h3⟩ | ⟨a, o, h1, h2, h3⟩ | ⟨p, ps, h1, h2, h3, h4, h5⟩ | ⟨p, ps, h1, h2, h3, h4, h5⟩
    · exact ⟨_, op_in_str, z, w, h1, h2, by rw [← h3]; exact hq⟩
    · exact ⟨_, op_dictIn (by omega), a, o, h1, h2, by rw [if_neg (by decide), ← h3]; exact hq⟩
    · exact ⟨_, op_inD hu, p, ps, h1, h2, h3, h4, by rw [← h5]; exact hq⟩
    · exact ⟨_, op_inTup hu, p, ps, h1, h2, h3, h4, by rw [if_neg (by decide), ← h5]; exact hq⟩
theorem or_notIn (hu : X.A.units + 65 < cLine) : OpR X (compareOp .NotIn) (rF2 X.mg X.K opNotIn) := OpR.any fun x y H Q ⟨ι, g, d, e, r, hd, he, h⟩ => by
  unfold opNotIn at h
  cases q : opInB d e g with
  | none => rw [q] at h; exact h.elim
  | some b =>
    rw [q] at h
    have hq : Q (.bl (!b)) H := RunO.plain r h (.bl (!b))
    rcases in_cases r q hd he with ⟨z, w, h1, h2, h3⟩ | ⟨a, o, h1, h2, h3⟩ | ⟨p, ps, h1, h2, h3, h4, h5⟩ | ⟨p, ps, h1, h2, h3, h4, h5⟩
    · exact ⟨_, L2.op_notin_str, z, w, h1, h2, by rw [← h3]; exact hq⟩
    · exact ⟨_, op_dictNotIn (by omega), a, o, h1, h2, by rw [if_pos rfl, ← h3]; exact hq⟩
    · exact ⟨_, op_notInD hu, p, ps, h1, h2, h3, h4, by rw [← h5]; exact hq⟩
    · exact ⟨_, op_notInTup hu, p, ps, h1, h2, h3, h4, by rw [if_pos rfl, ← h5]; exact hq⟩
end

/-! ### subscripts -/
def opIx : Op2 := fun d e g => match d, e with
  | .tup ds, .int i => (atI ds i).map fun v => (v, g)
  | .rol ds, .int i => (atI ds i).map fun v => (v, g)
  | .str z, .int i => if z.length ≤ sizeLine then (atI z.cps.toList i).map fun c => (.str ⟨#[c]⟩, g) else none
  | .obj n, e => match rdL g n with
    | some ds => match e with
      | .int i => (atI ds i).map fun v => (v, g)
      | _ => none
    | none => match rdD g n with
      | some (t, kvs) => if keyOk t e = true then (dGet kvs e).map fun v => (v, g) else none
      | none => none
  | _, _ => none
theorem atI_den {K : PySem.W.Frag} {ι : List Addr} {H : Hp} {xs : List V} {ds : List D} {i : Int} {d : D} (h : DenAll K ι H xs ds) (e : atI ds i = some d) : ∃ v, atI xs i = some v ∧ Den K ι H v d := by
  unfold atI at e ⊢
  rw [h.length]
  cases q : ixN ds.length i with
  | none => rw [q] at e; cases e
  | some j =>
    rw [q] at e
    exact h.get (i := j) e
section
variable {X : Cx}
theorem IxR.any {r : R2} (h : ∀ x y H Q, r x y H Q → ∃ r', IxR X r' ∧ r' x y H Q) : IxR X r := fun a b pins s σ H x y v u Q I rx ry q hs => by
  obtain ⟨r', h1, h2⟩ := h x y H Q q
  exact h1 a b pins s σ H x y v u Q I rx ry h2 hs
end
end L3

/-! L3F: subscripts, slices, stores, attributes. -/
namespace L3
open PySem PySem.Spec L2

section
variable {X : Cx}
def rDictIx : R2 := fun x y H Q => ∃ a v, x = .ref a ∧ DGet H a y (some v) ∧ Q v H
theorem ix_dict (hu : X.A.units + 1 < cLine) : IxR X rDictIx := by
  intro value slice pins s σ H x y v u Q I rx ry h hs
  obtain ⟨a, w, rfl, dg, q⟩ := h
  cases rx
  exact PyProof.Rows.tail_any (dict_typeIs I dg) PySem.F.slot_dict_getitem.lookup (d_getItem hu I dg ry fun w' s3 I3 rw' => ⟨w, H, I3, rw', q⟩) hs
theorem or_ix (hu : X.A.units + 1 < cLine) : IxR X (rF2 X.mg X.K opIx) := IxR.any fun x y H Q ⟨ι, g, d, e, r, hd, he, h⟩ => by
  cases hd with
  | str z => cases he with
    | int i =>
      have h : RunO X.mg X.K ι H Q (if z.length ≤ sizeLine then (atI z.cps.toList i).map fun c => (.str ⟨#[c]⟩, g) else none) := h
      by_cases hl : z.length ≤ sizeLine
      · rw [if_pos hl] at h
        cases q : atI z.cps.toList i with
        | none => rw [q] at h; exact h.elim
        | some c => rw [q] at h; exact ⟨_, ix_str, z, i, c, rfl, rfl, hl, q, RunO.plain r h (.str _)⟩
      · rw [if_neg hl] at h; exact h.elim
    | _ => exact h.elim
  | @tup a xs ds ha hxs => cases he with
    | int i =>
      have h : RunO X.mg X.K ι H Q ((atI ds i).map fun v => (v, g)) := h
      cases q : atI ds i with
      | none => rw [q] at h; exact h.elim
      | some c =>
        rw [q] at h
        obtain ⟨v, h1, h2⟩ := atI_den hxs q
        exact ⟨_, ix_tup, a, xs, i, v, rfl, rfl, ha.1, h1, RunO.plain r h h2⟩
    | _ => exact h.elim
  | @rol a xs ds ha hxs => cases he with
    | int i =>
      have h : RunO X.mg X.K ι H Q ((atI ds i).map fun v => (v, g)) := h
      cases q : atI ds i with
      | none => rw [q] at h; exact h.elim
      | some c =>
        rw [q] at h
        obtain ⟨v, h1, h2⟩ := atI_den hxs q
        exact ⟨_, ix_list, a, xs, i, v, rfl, rfl, SqP.sq ha, h1, RunO.plain r h h2⟩
    | _ => exact h.elim
  | @obj a n hn =>
    cases e1 : rdL g n with
    | some ds =>
      cases he with
      | int i =>
        simp only [opIx, e1] at h
        cases q : atI ds i with
        | none => rw [q] at h; exact h.elim
        | some c =>
          rw [q] at h
          obtain ⟨xs, hx, hxs⟩ := r.rdL e1 hn
          obtain ⟨v, h1, h2⟩ := atI_den hxs q
          exact ⟨_, ix_list, a, xs, i, v, rfl, rfl, SqL.of hx, h1, RunO.plain r h h2⟩
      | _ => simp only [opIx, e1] at h; exact h.elim
    | none =>
      cases e2 : rdD g n with
      | none => simp only [opIx, e1, e2] at h; exact h.elim
      | some p =>
        obtain ⟨t, kvs⟩ := p
        simp only [opIx, e1, e2] at h
        by_cases hk : keyOk t e = true
        · rw [if_pos hk] at h
          cases q : dGet kvs e with
          | none => rw [q] at h; exact h.elim
          | some w =>
            rw [q] at h
            obtain ⟨v, h1, h2⟩ := (dget_of r e2 hn hk he).1 w q
            exact ⟨_, ix_dict hu, a, v, rfl, h1, RunO.plain r h h2⟩
        · rw [if_neg hk] at h; exact h.elim
  | _ => exact h.elim
theorem se_ix {W : WX} {pos : Pos} {e1 e2 : Expr} {m1 m2 : EM} (hu : X.A.units + 1 < cLine) (ha : SE X W e1 m1) (hb : SE X W e2 m2) (hs : PlainIx e2 := by intro _ _; rfl) : SE X W (.Subscript e1 e2 pos) (mOp2 opIx m1 m2) := ⟨PE.imp (pe_ix (or_ix hu) ha.pe hb.pe hs) tF_op2⟩
end

/-! ### slices -/
abbrev PM := Rho → GH → R (Option Int)
def mNoP : PM := fun _ g => .ok none g
def mPart (m : EM) : PM := fun ρ g => (m ρ g).bind fun d g1 => match d with
  | .int i => .ok (some i) g1
  | _ => .bad
def tFO (mg : Str → Option Value) (K : PySem.W.Frag) (W : WX) (m : PM) : TO := fun σ H Q => ∃ ι g ρ, Rel mg K ι g H ∧ EnvR K ι H σ ρ ∧ RunX mg K (fun _ _ (v : Option Int) d => v = d) (fun c d H' => W c d σ H') ι H Q (m ρ g)
structure SO (X : Cx) (W : WX) (e : Option Expr) (m : PM) : Prop where
  po : PO X e (tFO X.mg X.K W m)
theorem PO.imp {X : Cx} {e : Option Expr} {t t' : TO} (h : PO X e t) (f : ∀ σ H Q, t' σ H Q → t σ H Q) : PO X e t' := ⟨fun pins s σ H Q I q => h.run pins s σ H Q I (f σ H Q q)⟩
def cutD (xs : List D) (lo hi : Option Int) : List D := (xs.drop (HT.sIx xs.length 0 lo)).take (HT.sIx xs.length xs.length hi - HT.sIx xs.length 0 lo)
def opSl (d : D) (lo hi : Option Int) (g : GH) : Option (D × GH) := match d with
  | .tup ds => some (.tup (cutD ds lo hi), g)
  | .str z => if z.length ≤ sizeLine then some (.str (cutS z lo hi), g) else none
  | .obj n => match rdL g n with
    | some ds => some (.obj g.length, g ++ [.lst (cutD ds lo hi)])
    | none => none
  | .rol ds => some (.obj g.length, g ++ [.lst (cutD ds lo hi)])
  | _ => none
def mSl (m : EM) (l h : PM) : EM := fun ρ g => (m ρ g).bind fun d g1 => (l ρ g1).bind fun a g2 => (h ρ g2).bind fun b g3 => lift (opSl d a b g3)
section
variable {X : Cx} {W : WX} {pos p2 : Pos} {e : Expr} {lo hi : Option Expr} {m : EM} {ml mh : PM}
theorem so_none : SO X W none mNoP := ⟨PO.imp po_none fun σ H Q ⟨ι, g, ρ, r, hρ, h⟩ => h ι H none (Step.refl r) rfl⟩
theorem so_some (h : SE X W e m) : SO X W (some e) (mPart m) := ⟨PO.imp (po_some h.pe) fun σ H Q ⟨ι, g, ρ, r, hρ, h⟩ => by
  refine ⟨ι, g, ρ, r, hρ, RunX.mono (RunX.bind (Dn := fun ι H v d => Den X.K ι H v d) h) fun v H1 ⟨ι1, g1, d, s1, hd, h1⟩ => ?_⟩
  cases hd with
  | int i => exact ⟨i, rfl, h1 ι1 H1 (some i) (Step.refl s1.rel) rfl⟩
  | _ => exact h1.elim⟩
theorem cutD_den {K : PySem.W.Frag} {ι : List Addr} {H : Hp} {xs : List V} {ds : List D} (lo hi : Option Int) (h : DenAll K ι H xs ds) : DenAll K ι H (cutV xs lo hi) (cutD ds lo hi) := by
  unfold cutV cutD
  rw [h.length]
  exact DenAll.take _ (DenAll.drop _ h)
theorem SlR.any {r : V → Option Int → Option Int → Hp → VK → Prop} (h : ∀ x lo hi H Q, r x lo hi H Q → ∃ r', SlR X r' ∧ r' x lo hi H Q) : SlR X r := fun pins s σ H x v vl vu lo hi sl Q I rx hs pl pu q => by
  obtain ⟨r', h1, h2⟩ := h x lo hi H Q q
  exact h1 pins s σ H x v vl vu lo hi sl Q I rx hs pl pu h2
def rFSl (mg : Str → Option Value) (K : PySem.W.Frag) : V → Option Int → Option Int → Hp → VK → Prop := fun x lo hi H Q => ∃ ι g d, Rel mg K ι g H ∧ Den K ι H x d ∧ RunO mg K ι H Q (opSl d lo hi g)
theorem cut_whole (ds : List D) (lo hi : Option Int) (h : HT.sIx ds.length 0 lo = 0 ∧ HT.sIx ds.length ds.length hi = ds.length) : cutD ds lo hi = ds := by
  unfold cutD
  rw [h.1, h.2]
  simp
theorem or_sl : SlR X (rFSl X.mg X.K) := SlR.any fun x lo hi H Q ⟨ι, g, d, r, hd, h⟩ => by
  cases hd with
  | str z =>
    have h : RunO X.mg X.K ι H Q (if z.length ≤ sizeLine then some (.str (cutS z lo hi), g) else none) := h
    by_cases hl : z.length ≤ sizeLine
    · rw [if_pos hl] at h
      exact ⟨_, sl_str, z, rfl, hl, RunO.plain r h (.str _)⟩
    · rw [if_neg hl] at h; exact h.elim
  | @tup a xs ds ha hxs =>
    have h : RunO X.mg X.K ι H Q (some (.tup (cutD ds lo hi), g)) := h
    have hl := hxs.length
    refine ⟨_, sl_tupA, a, xs, rfl, ha.1, fun hw => ?_, fun hw => RunO.newT (r := r) h (cutD_den lo hi hxs)⟩
    rw [cut_whole ds lo hi (by rw [← hl]; exact hw)] at h
    exact RunO.plain r h (.tup ha hxs)
  | @obj a n hn =>
    cases e1 : rdL g n with
    | none => simp only [opSl, e1] at h; exact h.elim
    | some ds =>
      simp only [opSl, e1] at h
      obtain ⟨xs, hx, hxs⟩ := r.rdL e1 hn
      exact ⟨_, sl_list, a, xs, rfl, SqL.of hx, RunO.newL (r := r) h (cutD_den lo hi hxs)⟩
  | @rol a xs ds ha hxs =>
    have h : RunO X.mg X.K ι H Q (some (.obj g.length, g ++ [.lst (cutD ds lo hi)])) := h
    exact ⟨_, sl_list, a, xs, rfl, SqP.sq ha, RunO.newL (r := r) h (cutD_den lo hi hxs)⟩
  | _ => exact h.elim
theorem se_sl (he : SE X W e m) (hl : SO X W lo ml) (hh : SO X W hi mh) : SE X W (.Subscript e (.Slice lo hi none p2) pos) (mSl m ml mh) := ⟨PE.imp (pe_slice or_sl he.pe hl.po hh.po) fun σ H Q ⟨ι, g, ρ, r, hρ, h⟩ => by
  refine ⟨ι, g, ρ, r, hρ, RunX.mono (RunX.bind (Dn := fun ι H v d => Den X.K ι H v d) h) fun v H1 ⟨ι1, g1, d, s1, hd, h1⟩ => ?_⟩
  refine ⟨ι1, g1, ρ, s1.rel, hρ.step s1, RunX.mono (RunX.bind (Dn := fun _ _ (v : Option Int) d => v = d) h1) fun a H2 ⟨ι2, g2, a', s2, ea, h2⟩ => ?_⟩
  have ea : a = a' := ea
  subst ea
  refine ⟨ι2, g2, ρ, s2.rel, (hρ.step s1).step s2, RunX.mono (RunX.bind (Dn := fun _ _ (v : Option Int) d => v = d) h2) fun b H3 ⟨ι3, g3, b', s3, eb, h3⟩ => ?_⟩
  have eb : b = b' := eb
  subst eb
  exact ⟨ι3, g3, d, s3.rel, (s2.trans s3).den hd, runO_of h3⟩⟩
end

/-! ### o[i] = v -/
/-- a store by values -/
def opSet (o i v : D) (g : GH) : Option GH := match o with
  | .obj n => match g[n]? with
    | some (.lst ds) => match i with
      | .int k => (ixN ds.length k).map fun j => g.set n (.lst (ds.set j v))
      | _ => none
    | some (.dct t kvs) => if keyOk t i = true ∧ kvs.length < sizeLine then some (g.set n (.dct t (dPut kvs i v))) else none
    | _ => none
  | _ => none
def RunH (mg : Str → Option Value) (K : PySem.W.Frag) (ι : List Addr) (H : Hp) (Q : Hp → Prop) : Option GH → Prop
  | some g' => ∀ ι' H', Step mg K ι H ι' g' H' → Q H'
  | none => False
section
variable {X : Cx}
def rFSet (mg : Str → Option Value) (K : PySem.W.Frag) : TSet := fun o i v H Q => ∃ ι g a b c, Rel mg K ι g H ∧ Den K ι H o a ∧ Den K ι H i b ∧ Den K ι H v c ∧ RunH mg K ι H Q (opSet a b c g)
theorem PSet.any {r : TSet} (h : ∀ x y z H Q, r x y z H Q → ∃ r', PSet X r' ∧ r' x y z H Q) : PSet X r := fun pins s σ H o i v ov iv u Q I ro ri rv q => by
  obtain ⟨r', h1, h2⟩ := h o i v H Q q
  exact h1 pins s σ H o i v ov iv u Q I ro ri rv h2
def rDictSet : TSet := fun o i v H Q => ∃ a H', o = .ref a ∧ DPut H a i v H' ∧ Q H'
theorem set_dict (hu : X.A.units + 1 < cLine) : PSet X rDictSet := fun pins s σ H o i v ov iv u Q I ro ri rv ⟨a, H', e, dp, q⟩ => by
  subst e
  cases ro
  exact d_setItem hu I dp ri rv fun s' I' => ⟨H', I', q⟩
theorem or_set (hu : X.A.units + 1 < cLine) : PSet X (rFSet X.mg X.K) := PSet.any fun x y z H Q ⟨ι, g, a, b, c, r, ha, hb, hc, h⟩ => by
  cases ha with
  | @obj p n hn =>
    cases e1 : g[n]? with
    | none => simp only [opSet, e1] at h; exact h.elim
    | some o =>
      cases o with
      | lst ds =>
        cases hb with
        | int k =>
          simp only [opSet, e1] at h
          cases q : ixN ds.length k with
          | none => rw [q] at h; exact h.elim
          | some j =>
            rw [q] at h
            obtain ⟨xs, hx, hxs⟩ := r.at_ n _ p e1 hn
            refine ⟨_, set_list, p, xs, k, j, rfl, rfl, hx, by rw [hxs.length]; exact q, h ι _ (Step.write r hn (fun H' hT hP hH => ?_) fun ob x z => by rw [hx] at z; cases z)⟩
            exact ⟨_, hH, DenAll.set j (DenAll.mono (fun _ _ h => h) hT hP _ _ hxs) (Den.mono (fun _ _ h => h) hT hP _ _ hc)⟩
        | _ => simp only [opSet, e1] at h; exact h.elim
      | dct t kvs =>
        simp only [opSet, e1] at h
        by_cases hk : keyOk t b = true ∧ kvs.length < sizeLine
        · rw [if_pos hk] at h
          obtain ⟨H', dp, s⟩ := dput_of r e1 hn hk.1 hk.2 hb hc
          exact ⟨_, set_dict hu, p, H', rfl, dp, h ι H' s⟩
        · rw [if_neg hk] at h; exact h.elim
      | ins _ _ => simp only [opSet, e1] at h; exact h.elim
      | frz _ => simp only [opSet, e1] at h; exact h.elim
  | _ => exact h.elim
end
/-- o[i] as a target -/
def gSb (mo mi : EM) : TM := fun d ρ g => match mo ρ g with
  | .ok o g1 => match mi ρ g1 with
    | .ok i g2 => (opSet o i d g2).map fun g3 => (ρ, g3)
    | _ => none
  | _ => none
section
variable {X : Cx} {W : WX} {pos : Pos} {o i e : Expr} {mo mi me : EM}
theorem sg_sub (hu : X.A.units + 1 < cLine) (ho : SE X (fun _ _ _ _ => False) o mo) (hi : SE X (fun _ _ _ _ => False) i mi)
    (ha : ∀ v, assign (.Subscript o i pos) X.env v = (do
      let ov ← holding [v] (eval o X.env)
      let iv ← holding [v, ov] (eval i X.env)
      standAt pos
      holding [v, ov, iv] (setItem ov iv v)
      release [v, ov, iv] []) := by intro _; rfl) : SG X (.Subscript o i pos) (gSb mo mi) := ⟨PG.imp (pg_sub ho.pe hi.pe (or_set hu) ha) fun v σ H Q ⟨ι, g, ρ, d, r, hρ, hd, h⟩ => by
  refine ⟨ι, g, ρ, r, hρ, ?_⟩
  unfold gSb at h
  cases e1 : mo ρ g with
  | ok x g1 =>
    simp only [e1] at h
    intro ι1 H1 u s1 hu1
    refine ⟨ι1, g1, ρ, s1.rel, hρ.step s1, ?_⟩
    cases e2 : mi ρ g1 with
    | ok y g2 =>
      simp only [e2] at h
      intro ι2 H2 w s2 hw
      refine ⟨ι2, g2, x, y, d, s2.rel, s2.den hu1, hw, (s1.trans s2).den hd, ?_⟩
      cases e3 : opSet x y d g2 with
      | none => rw [e3] at h; exact h.elim
      | some g3 =>
        rw [e3] at h
        exact fun ι3 H3 s3 => h ι3 H3 σ ((s1.trans s2).trans s3) (hρ.step ((s1.trans s2).trans s3))
    | ex c fs g2 => simp only [e2] at h; exact h.elim
    | bad => simp only [e2] at h; exact h.elim
  | ex c fs g1 => simp only [e1] at h; exact h.elim
  | bad => simp only [e1] at h; exact h.elim⟩
end

/-! ### attributes -/
def fGet (fs : List (Str × D)) (f : Str) : Option D := (fs.find? fun p => decide (p.1 = f)).map (·.2)
def fPut (f : Str) (v : D) : List (Str × D) → List (Str × D)
  | [] => [(f, v)]
  | (k, x) :: r => if k = f then (k, v) :: r else (k, x) :: fPut f v r
/-- o.f, o an instance of one of the classes cs -/
def opFld (cs : List Str) (f : Str) : Op1 := fun d g => match d with
  | .obj n => match g[n]? with
    | some (.ins c fs) => if c ∈ cs then (fGet fs f).map fun v => (v, g) else none
    | _ => none
  | _ => none
/-- what the written part says of the classes cs and the name f -/
def FldOk (mg : Str → Option Value) (K : PySem.W.Frag) (cs : List Str) (f : Str) : Prop := ∀ c ∈ cs, ∀ C, mg c = some (.ref C) → Cls K C ∧ NoAttr K C f
section
variable {K : PySem.W.Frag} {ι : List Addr} {H : Hp}
theorem fld_get {f : Str} : ∀ {ps : List (Str × V)} {fs : List (Str × D)}, FldR K ι H ps fs → ∀ {d : D}, fGet fs f = some d → ∃ v, ps.lookup f = some v ∧ Den K ι H v d
  | _, _, .nil, _, h => by simp [fGet] at h
  | _, _, @Paired.cons _ _ _ p q ps fs r t, d, h => by
    obtain ⟨pk, pv⟩ := p
    obtain ⟨qk, qv⟩ := q
    obtain ⟨e, hd⟩ := r
    simp only at e hd
    subst e
    by_cases hk : pk = f
    · subst hk
      simp [fGet] at h
      subst h
      exact ⟨pv, by simp [List.lookup], hd⟩
    · have e1 : fGet ((pk, qv) :: fs) f = fGet fs f := by simp [fGet, List.find?_cons, hk]
      rw [e1] at h
      obtain ⟨v, h1, h2⟩ := fld_get t h
      refine ⟨v, ?_, h2⟩
      rw [List.lookup_cons]
      have : (f == pk) = false := by simpa using fun z : f = pk => hk z.symm
      rw [this]
      exact h1
theorem fld_put {f : Str} {v : V} {d : D} (hv : Den K ι H v d) : ∀ {ps : List (Str × V)} {fs : List (Str × D)}, FldR K ι H ps fs → FldR K ι H (putF f v ps) (fPut f d fs)
  | _, _, .nil => .cons ⟨rfl, hv⟩ .nil
  | _, _, @Paired.cons _ _ _ p q ps fs r t => by
    obtain ⟨pk, pv⟩ := p
    obtain ⟨qk, qv⟩ := q
    obtain ⟨e, hd⟩ := r
    simp only at e hd
    subst e
    unfold putF fPut
    by_cases hk : pk = f
    · simp only [hk, if_true]
      exact .cons ⟨rfl, hv⟩ t
    · simp only [hk, if_false]
      exact .cons ⟨rfl, hd⟩ (fld_put hv t)
end
section
variable {X : Cx} {W : WX} {pos pos' : Pos} {o e : Expr} {f : Str} {m me : EM} {cs : List Str}
theorem se_fld (hc : FldOk X.mg X.K cs f) (he : SE X W e m) (hb : attributeBase e f X.env (eval e X.env) = eval e X.env := by rfl) : SE X W (.Attribute e f pos) (mOp1 (opFld cs f) m) := ⟨PE.imp (pe_fld he.pe hb) fun σ H Q h => by
  obtain ⟨ι, g, ρ, r, hρ, h⟩ := tF_op1 σ H Q h
  refine ⟨ι, g, ρ, r, hρ, RunX.mono h fun v H1 ⟨ι1, g1, d, r1, hd, h1⟩ => ?_⟩
  cases hd with
  | @obj a n hn =>
    cases e1 : g1[n]? with
    | none => simp only [opFld, e1] at h1; exact h1.elim
    | some ob =>
      cases ob with
      | ins c fs =>
        simp only [opFld, e1] at h1
        by_cases hm : c ∈ cs
        · rw [if_pos hm] at h1
          cases q : fGet fs f with
          | none => rw [q] at h1; exact h1.elim
          | some w =>
            rw [q] at h1
            obtain ⟨C, dx, ps, hH, hC, hf⟩ := r1.at_ n _ a e1 hn
            obtain ⟨u, hl, hd⟩ := fld_get hf q
            obtain ⟨k1, k2⟩ := hc c hm C hC
            exact ⟨a, C, dx, ps, u, rfl, hH, k1, k2, hl, RunO.plain r1 h1 hd⟩
        · rw [if_neg hm] at h1; exact h1.elim
      | _ => simp only [opFld, e1] at h1; exact h1.elim
  | _ => exact h1.elim⟩
def opSetF (cs : List Str) (f : Str) (o v : D) (g : GH) : Option GH := match o with
  | .obj n => match g[n]? with
    | some (.ins c fs) => if c ∈ cs ∧ fs.length < 1000 then some (g.set n (.ins c (fPut f v fs))) else none
    | _ => none
  | _ => none
def sSetF (cs : List Str) (f : Str) (mo mv : EM) : SM := fun ρ g => (mv ρ g).st ρ fun v g1 => (mo ρ g1).st ρ fun o g2 => match opSetF cs f o v g2 with
  | some g3 => .ok (.nx ρ) g3
  | none => .bad
theorem ss_fld (hc : FldOk X.mg X.K cs f) (ho : SE X W o m) (hv : SE X W e me) (hs : swapsWith e (some (.Attribute o f pos')) pos.line X.env = pure false := by rfl) : SS X W (.Assign [.Attribute o f pos'] e pos) (sSetF cs f m me) :=
  ⟨PS.imp (ps_fld ho.pe hv.pe hs) fun D σ H ⟨ι, g, ρ, r, hρ, h⟩ => by
    refine ⟨ι, g, ρ, r, hρ, RunX.mono (RunS.bind hρ h) fun v H1 ⟨ι1, g1, d, s1, hd, h1⟩ => ?_⟩
    refine ⟨ι1, g1, ρ, s1.rel, hρ.step s1, RunX.mono (RunS.bind (Dm := fun ι H v d => Den X.K ι H v d) (hρ.step s1) h1) fun u H2 ⟨ι2, g2, d2, s2, hd2, h2⟩ => ?_⟩
    cases hd2 with
    | @obj a n hn =>
      cases e1 : g2[n]? with
      | none => simp only [opSetF, e1] at h2; exact h2.elim
      | some ob =>
        cases ob with
        | ins c fs =>
          simp only [opSetF, e1] at h2
          by_cases hm : c ∈ cs ∧ fs.length < 1000
          · rw [if_pos hm] at h2
            obtain ⟨C, dx, ps, hH, hC, hf⟩ := s2.rel.at_ n _ a e1 hn
            obtain ⟨k1, k2⟩ := hc c hm.1 C hC
            refine ⟨a, C, dx, ps, rfl, hH, k1, k2, by rw [paired_len hf]; exact hm.2, ?_⟩
            have s3 : Step X.mg X.K ι2 H2 ι2 (g2.set n (.ins c (fPut f d fs))) (upd H2 a (.ins C dx (putF f v ps))) := Step.write s2.rel hn (fun H' hT hP hH' => by
              exact ⟨C, dx, _, hH', hC, fld_put (Den.mono (fun _ _ h => h) hT hP _ _ (s2.den hd)) (hf.mono (fun _ _ h => h) hT hP)⟩) fun ob x z => by rw [hH] at z; cases z
            exact h2 ι2 _ σ s3 (((hρ.step s1).step s2).step s3)
          · rw [if_neg hm] at h2; exact h2.elim
        | _ => simp only [opSetF, e1] at h2; exact h2.elim
    | _ => exact h2.elim⟩
end

/-! ### x op= e, o[i] op= e -/
def sAug (i : Nat) (f : Op2) (m : EM) : SM := fun ρ g => match ρ[i]? with
  | some (some x) => (m ρ g).st ρ fun y g1 => match f x y g1 with
    | some (z, g2) => .ok (.nx (ρ.set i (some z))) g2
    | none => .bad
  | _ => .bad
/-- the item ahead of the change -/
def opAt (o i : D) (g : GH) : Option D := match o with
  | .obj n => match g[n]? with
    | some (.lst ds) => match i with
      | .int k => if 0 ≤ k then atI ds k else none
      | _ => none
    | some (.dct t kvs) => if keyOk t i = true then dGet kvs i else none
    | _ => none
  | _ => none
def sAugS (f : Op2) (mo mi me : EM) : SM := fun ρ g => (mo ρ g).st ρ fun o g1 => (mi ρ g1).st ρ fun i g2 => match opAt o i g2 with
  | some x => (me ρ g2).st ρ fun y g4 => match f x y g4 with
    | some (z, g5) => match opSet o i z g5 with
      | some g6 => .ok (.nx ρ) g6
      | none => .bad
    | none => .bad
  | none => .bad
def opAddI : Op2 := fun d e g => match d, e with
  | .int i, .int j => some (.int (i + j), g)
  | _, _ => none
section
variable {X : Cx} {W : WX} {pos pos' : Pos} {o i e : Expr} {mo mi me : EM} {f : Op2} {op : Operator}
/-- an operator in place -/
def IpR (X : Cx) (op : Operator) (f : Op2) : Prop := PIp X op (rF2 X.mg X.K f)
theorem ipr_add : IpR X .Add opAddI := fun pins s σ H x y v u Q I rx ry ⟨ι, g, d, e, r, hd, he, h⟩ => by
  cases hd with
  | int i => cases he with
    | int j => exact ip_add pins s σ H _ _ v u Q I rx ry ⟨i, j, rfl, rfl, RunO.plain r h (.int _)⟩
    | _ => exact h.elim
  | _ => exact h.elim
theorem ipr_sub : IpR X .Sub opSub := fun pins s σ H x y v u Q I rx ry ⟨ι, g, d, e, r, hd, he, h⟩ => by
  cases hd with
  | int i => cases he with
    | int j => exact ip_sub pins s σ H _ _ v u Q I rx ry ⟨i, j, rfl, rfl, RunO.plain r h (.int _)⟩
    | _ => exact h.elim
  | _ => exact h.elim
theorem ss_aug (i : Nat) {x : Str} (hN : X.N.Nodup) (hp : IpR X op f) (he : SE X W e me) (hi : X.N[i]? = some x := by rfl) (hx : Loc X.env.scope x := by first | exact Or.inl rfl | exact Or.inr rfl)
    (hf : X.fn x = true ∨ X.env.scope.names.lookup x = some .local := by first | exact .inl rfl | exact .inr rfl | assumption) : SS X W (.AugAssign (.Name x pos') op e pos) (sAug i f me) :=
  ⟨PS.imp (ps_aug hN hi hx he.pe hp hf) fun D σ H ⟨ι, g, ρ, r, hρ, h⟩ => by
    unfold sAug at h
    cases e1 : ρ[i]? with
    | none => simp only [e1] at h; exact h.elim
    | some o =>
      cases o with
      | none => simp only [e1] at h; exact h.elim
      | some d =>
        simp only [e1] at h
        obtain ⟨v, hv, hd⟩ := hρ.2 i d e1
        refine ⟨v, hv, ι, g, ρ, r, hρ, RunX.mono (RunS.bind (Dm := fun ι H v d => Den X.K ι H v d) hρ h) fun u H1 ⟨ι1, g1, d1, s1, hd1, h1⟩ => ?_⟩
        refine ⟨ι1, g1, d, d1, s1.rel, s1.den hd, hd1, ?_⟩
        cases e2 : f d d1 g1 with
        | none => simp only [e2] at h1; exact h1.elim
        | some p =>
          obtain ⟨z, g2⟩ := p
          simp only [e2] at h1
          exact fun ι2 H2 w s2 hw => h1 ι2 H2 _ s2 (((hρ.step s1).step s2).set i hw)⟩
def rAtI (mg : Str → Option Value) (K : PySem.W.Frag) : V → V → Hp → VK → Prop := fun x y H Q => ∃ ι g o i d, Rel mg K ι g H ∧ Den K ι H x o ∧ Den K ι H y i ∧ opAt o i g = some d ∧ ∀ v, Den K ι H v d → Q v H
theorem pget_at (hu : X.A.units + 1 < cLine) : PGet X (rAtI X.mg X.K) := fun pins s σ H x y v u Q I rx ry ⟨ι, g, o, i, d, r, ho, hi, e, q⟩ => by
  cases ho with
  | @obj p n hn =>
    cases rx
    cases e1 : g[n]? with
    | none => simp only [opAt, e1] at e; cases e
    | some ob =>
      cases ob with
      | lst ds =>
        cases hi with
        | int k =>
          simp only [opAt, e1] at e
          by_cases h0 : 0 ≤ k
          · rw [if_pos h0] at e
            obtain ⟨xs, hx, hxs⟩ := r.at_ n _ p e1 hn
            obtain ⟨w, hw, hd⟩ := atI_den hxs e
            obtain ⟨t, rfl⟩ := ry
            obtain ⟨its, rv, pl, hz⟩ := I.list (SqL.of hx)
            obtain ⟨j, h1, h2, h3, h4, h5⟩ := atI_get hw
            obtain ⟨c, hc, rc⟩ := rv.get h2
            have hl := rv.length
            have hn63 := line63
            have hj : k.toNat = j := by
              rw [seqIndex_of h0 h5] at h1
              exact Option.some.inj h1
            exact wpAny_getItem_list pl.isList h0 (by omega) (by rw [hj]; simpa using hc) ⟨w, H, I, rc, q w hd⟩
          · rw [if_neg h0] at e; cases e
        | _ => simp only [opAt, e1] at e; cases e
      | dct t kvs =>
        simp only [opAt, e1] at e
        by_cases hk : keyOk t i = true
        · rw [if_pos hk] at e
          have e2 : rdD g n = some (t, kvs) := by unfold rdD; rw [e1]
          obtain ⟨w, dg, hd⟩ := (dget_of r e2 hn hk hi).1 d e
          exact d_getItem hu I dg ry fun w' s3 I3 rw' => ⟨w, H, I3, rw', q w hd⟩
        · rw [if_neg hk] at e; cases e
      | _ => simp only [opAt, e1] at e; cases e
  | _ => simp [opAt] at e
theorem ss_augS (hu : X.A.units + 1 < cLine) (hp : IpR X op f) (ho : SE X W o mo) (hi : SE X W i mi) (he : SE X W e me)
    (ha : ∀ ov iv new, augStore i ov iv new = (do holding [new, ov, iv] (setItem ov iv new); release [new, ov, iv] []; pure .next) := by intros; rfl) : SS X W (.AugAssign (.Subscript o i pos') op e pos) (sAugS f mo mi me) :=
  ⟨PS.imp (ps_augS ho.pe hi.pe (pget_at hu) he.pe hp (or_set hu) ha) fun D σ H ⟨ι, g, ρ, r, hρ, h⟩ => by
    refine ⟨ι, g, ρ, r, hρ, RunX.mono (RunS.bind (Dm := fun ι H v d => Den X.K ι H v d) hρ h) fun v1 H1 ⟨ι1, g1, d1, s1, hd1, h1⟩ => ?_⟩
    have q1 := hρ.step s1
    refine ⟨ι1, g1, ρ, s1.rel, q1, RunX.mono (RunS.bind (Dm := fun ι H v d => Den X.K ι H v d) q1 h1) fun v2 H2 ⟨ι2, g2, d2, s2, hd2, h2⟩ => ?_⟩
    have q2 := q1.step s2
    cases e1 : opAt d1 d2 g2 with
    | none => simp only [e1] at h2; exact h2.elim
    | some x =>
      simp only [e1] at h2
      refine ⟨ι2, g2, d1, d2, x, s2.rel, s2.den hd1, hd2, e1, fun v3 hd3 => ?_⟩
      refine ⟨ι2, g2, ρ, s2.rel, q2, RunX.mono (RunS.bind (Dm := fun ι H v d => Den X.K ι H v d) q2 h2) fun v4 H4 ⟨ι4, g4, d4, s4, hd4, h4⟩ => ?_⟩
      refine ⟨ι4, g4, x, d4, s4.rel, s4.den hd3, hd4, ?_⟩
      cases e2 : f x d4 g4 with
      | none => simp only [e2] at h4; exact h4.elim
      | some p =>
        obtain ⟨z, g5⟩ := p
        simp only [e2] at h4
        intro ι5 H5 v5 s5 hd5
        cases e3 : opSet d1 d2 z g5 with
        | none => simp only [e3] at h4; exact h4.elim
        | some g6 =>
          simp only [e3] at h4
          refine ⟨ι5, g5, d1, d2, z, s5.rel, s5.den (s4.den (s2.den hd1)), s5.den (s4.den hd2), hd5, ?_⟩
          rw [e3]
          exact fun ι6 H6 s6 => h4 ι6 H6 σ (s5.trans s6) ((q2.step s4).step (s5.trans s6))⟩
end
end L3

/-! L3G: builtins and methods of builtins. -/
namespace L3
open PySem PySem.Spec L2

section
variable {X : Cx} {W : WX} {pos p : Pos}
theorem CallR.any {f : Value} {r : List V → Hp → VK → Prop} (h : ∀ xs H Q, r xs H Q → ∃ r', CallR X f r' ∧ r' xs H Q) : CallR X f r := fun pins s σ H vs us Q I rv q => by
  obtain ⟨r', h1, h2⟩ := h vs H Q q
  exact h1 pins s σ H vs us Q I rv h2
theorem tF_opL' {mg : Str → Option Value} {K : PySem.W.Frag} {f : OpL} {a : AM} : ∀ σ H Q, tF mg K W (mOpL f a) σ H Q → tCB (rFL mg K f) (tFA mg K W a) σ H Q := fun σ H Q h => tF_opL σ H Q h
theorem se_blt {x : Str} {id : String} {f : OpL} {e : Expr} {es : List Expr} {m : AM} (hc : CallR X (.builtin id) (rFL X.mg X.K f)) (hg : Gl X x) (hm : X.mg x = none) (hv : bootBuiltins x = some (.builtin id)) (ha : SA X W (e :: es) m) (hn : x ≠ "__name__" := by decide) (hdb : (x == ("__debug__" : Str)) = false := by decide)
    (he : starEach (e :: es) X.env = (false, eval e X.env) :: starEach es X.env := by rfl) (hpl : (backTo pos (starEach es X.env)).any (·.1) = false := by rfl) : SE X W (.Call (.Name x p) (e :: es) [] pos) (mOpL f m) :=
  ⟨PE.imp (pe_callB hc hg hm hv ha.pa hn hdb he hpl) tF_opL'⟩
theorem se_bty {x : Str} {T : String} {f : OpL} {e : Expr} {es : List Expr} {m : AM} (hc : CallR X (.type T) (rFL X.mg X.K f)) (hg : Gl X x) (hm : X.mg x = none) (hv : bootBuiltins x = some (.type T)) (ha : SA X W (e :: es) m) (hn : x ≠ "__name__" := by decide) (hdb : (x == ("__debug__" : Str)) = false := by decide)
    (he : starEach (e :: es) X.env = (false, eval e X.env) :: starEach es X.env := by rfl) (hpl : (backTo pos (starEach es X.env)).any (·.1) = false := by rfl) : SE X W (.Call (.Name x p) (e :: es) [] pos) (mOpL f m) :=
  ⟨PE.imp (pe_callTy hc hg hm hv ha.pa hn hdb he hpl) tF_opL'⟩
end

/-! ### len, abs, min, max, int -/
def opLen : OpL := fun ds g => match ds with
  | [.tup ds] => some (.int ds.length, g)
  | [.rol ds] => some (.int ds.length, g)
  | [.str z] => if z.length ≤ sizeLine then some (.int z.length, g) else none
  | [.obj n] => match rdL g n with
    | some ds => some (.int ds.length, g)
    | none => match rdD g n with
      | some (_, kvs) => some (.int kvs.length, g)
      | none => none
  | _ => none
def opAbs : OpL := fun ds g => match ds with
  | [.int i] => some (.int (if i < 0 then -i else i), g)
  | _ => none
def opMax2 : OpL := fun ds g => match ds with
  | [.int i, .int j] => some (.int (if j > i then j else i), g)
  | _ => none
def opMin2 : OpL := fun ds g => match ds with
  | [.int i, .int j] => some (.int (if j < i then j else i), g)
  | _ => none
def opInt : OpL := fun ds g => match ds with
  | [.int i] => some (.int i, g)
  | [.bl b] => some (.int (if b then 1 else 0), g)
  | _ => none
section
variable {X : Cx} {K : PySem.W.Frag} {ι : List Addr} {H : Hp}
theorem denAll1 {xs : List V} {d : D} (h : DenAll K ι H xs [d]) : ∃ v, xs = [v] ∧ Den K ι H v d := by
  cases h with
  | cons a b => cases b; exact ⟨_, rfl, a⟩
theorem denAll2 {xs : List V} {d e : D} (h : DenAll K ι H xs [d, e]) : ∃ v w, xs = [v, w] ∧ Den K ι H v d ∧ Den K ι H w e := by
  cases h with
  | cons a b =>
    obtain ⟨w, rfl, c⟩ := denAll1 b
    exact ⟨_, w, rfl, a, c⟩
theorem dlen_rd : CallR X (.builtin "len") (fun xs H Q => ∃ p kvs, xs = [.ref p] ∧ Rd H p (.dK kvs) ∧ Q (.int kvs.length) H) := fun pins s σ H vs us Q I rv ⟨p, kvs, e, hp, q⟩ => by
  subst e
  obtain ⟨u, rfl, ru⟩ := Vals.one rv
  cases ru
  exact d_len I hp fun t s' I' => ⟨.int kvs.length, H, I', ⟨_, rfl⟩, q⟩
theorem dlenT_rd : CallR X (.builtin "len") (fun xs H Q => ∃ (p : Addr) (kvs : List (List Key × V)), xs = [.ref p] ∧ Rd H p (.dT kvs) ∧ Q (.int ((kvs.length : Nat) : Int)) H) := fun pins s σ H vs us Q I rv ⟨p, kvs, e, hp, q⟩ => by
  subst e
  obtain ⟨u, rfl, ru⟩ := Vals.one rv
  cases ru
  obtain ⟨z, hd, ys, rel, dd⟩ := dt_rd I.hok hp
  have hl : kvs.length = ys.length := paired_len rel
  have hz := sizeLine_eq
  refine call_len_dictH hd dd (by omega) ⟨.int ((kvs.length : Nat) : Int), H, I.tok _, ⟨_, by rw [hl]⟩, q⟩
theorem cr_len : CallR X (.builtin "len") (rFL X.mg X.K opLen) := CallR.any fun xs H Q ⟨ι, g, ds, r, hd, h⟩ => by
  cases hd with
  | nil => exact h.elim
  | @cons v vs d ds hv hvs =>
    cases hvs with
    | cons _ _ => cases hv <;> exact h.elim
    | nil =>
      cases hv with
      | str z =>
        have h : RunO X.mg X.K ι H Q (if z.length ≤ sizeLine then some (.int z.length, g) else none) := h
        by_cases hl : z.length ≤ sizeLine
        · rw [if_pos hl] at h
          exact ⟨_, call_len_str, z, rfl, hl, RunO.plain r h (.int _)⟩
        · rw [if_neg hl] at h; exact h.elim
      | @tup a xs ds ha hxs =>
        have h : RunO X.mg X.K ι H Q (some (.int ds.length, g)) := h
        exact ⟨_, call_len_seq, a, xs, rfl, .inr ha.1, by rw [hxs.length]; exact RunO.plain r h (.int _)⟩
      | @rol a xs ds ha hxs =>
        have h : RunO X.mg X.K ι H Q (some (.int ds.length, g)) := h
        exact ⟨_, call_len_seq, a, xs, rfl, .inl (SqP.sq ha), by rw [hxs.length]; exact RunO.plain r h (.int _)⟩
      | @obj a n hn =>
        cases e1 : rdL g n with
        | some ds =>
          simp only [opLen, e1] at h
          obtain ⟨xs, hx, hxs⟩ := r.rdL e1 hn
          exact ⟨_, call_len_seq, a, xs, rfl, .inl (SqL.of hx), by rw [hxs.length]; exact RunO.plain r h (.int _)⟩
        | none =>
          cases e2 : rdD g n with
          | none => simp only [opLen, e1, e2] at h; exact h.elim
          | some q =>
            obtain ⟨t, kvs⟩ := q
            simp only [opLen, e1, e2] at h
            obtain ⟨u, rd, dc⟩ := r.rdD e2 hn
            rcases dc with ⟨rfl, ps, rfl, pr⟩ | ⟨rfl, ps, rfl, pr⟩
            · exact ⟨_, dlen_rd, a, ps, rfl, rd, by rw [paired_len pr]; exact RunO.plain r h (.int _)⟩
            · exact ⟨_, dlenT_rd, a, ps, rfl, rd, by rw [paired_len pr]; exact RunO.plain r h (.int _)⟩
      | _ => exact h.elim
theorem cr_abs : CallR X (.builtin "abs") (rFL X.mg X.K opAbs) := CallR.any fun xs H Q ⟨ι, g, ds, r, hd, h⟩ => by
  cases hd with
  | nil => exact h.elim
  | cons hv hvs =>
    cases hv with
    | int i =>
      cases hvs with
      | nil => exact ⟨_, call_abs, i, rfl, RunO.plain r h (.int _)⟩
      | cons _ _ => exact h.elim
    | _ => exact h.elim
theorem cr_int : CallR X (.type "int") (rFL X.mg X.K opInt) := CallR.any fun xs H Q ⟨ι, g, ds, r, hd, h⟩ => by
  cases hd with
  | nil => exact h.elim
  | cons hv hvs =>
    cases hv with
    | int i =>
      cases hvs with
      | nil => exact ⟨_, call_int1, .inl ⟨i, rfl, RunO.plain r h (.int _)⟩⟩
      | cons _ _ => exact h.elim
    | bl b =>
      cases hvs with
      | nil => exact ⟨_, call_int1, .inr ⟨b, rfl, RunO.plain r h (.int _)⟩⟩
      | cons _ _ => exact h.elim
    | _ => exact h.elim
theorem cr_max2 (hc : X.calm = true) : CallR X (.builtin "max") (rFL X.mg X.K opMax2) := CallR.any fun xs H Q ⟨ι, g, ds, r, hd, h⟩ => by
  cases hd with
  | nil => exact h.elim
  | cons hv hvs =>
    cases hv with
    | int i =>
      cases hvs with
      | nil => exact h.elim
      | cons hw hws =>
        cases hw with
        | int j =>
          cases hws with
          | nil => exact ⟨_, call_max2 hc, i, j, rfl, RunO.plain r h (.int _)⟩
          | cons _ _ => exact h.elim
        | _ => exact h.elim
    | _ => exact h.elim
theorem cr_min2 (hc : X.calm = true) : CallR X (.builtin "min") (rFL X.mg X.K opMin2) := CallR.any fun xs H Q ⟨ι, g, ds, r, hd, h⟩ => by
  cases hd with
  | nil => exact h.elim
  | cons hv hvs =>
    cases hv with
    | int i =>
      cases hvs with
      | nil => exact h.elim
      | cons hw hws =>
        cases hw with
        | int j =>
          cases hws with
          | nil => exact ⟨_, call_min2 hc, i, j, rfl, RunO.plain r h (.int _)⟩
          | cons _ _ => exact h.elim
        | _ => exact h.elim
    | _ => exact h.elim
end

/-! ### tuple(x), list(x) -/
/-- the items of a list or a tuple -/
def seqOf (d : D) (g : GH) : Option (List D) := match d with
  | .tup ds => some ds
  | .rol ds => some ds
  | .obj n => rdL g n
  | _ => none
def opTuple : OpL := fun ds g => match ds with
  | [d] => match seqOf d g with
    | some ds => some (.tup ds, g)
    | none => none
  | _ => none
def opList : OpL := fun ds g => match ds with
  | [d] => match seqOf d g with
    | some ds => some (.obj g.length, g ++ [.lst ds])
    | none => none
  | _ => none
section
variable {X : Cx} {K : PySem.W.Frag} {mg : Str → Option Value} {ι : List Addr} {g : GH} {H : Hp}
theorem seq_of (r : Rel mg K ι g H) {d : D} {ds : List D} {v : V} (h : seqOf d g = some ds) (hv : Den K ι H v d) : ∃ a xs, v = .ref a ∧ DenAll K ι H xs ds ∧ (SqL K H a xs ∨ (d = .tup ds ∧ TpT K H a xs)) := by
  cases hv with
  | @tup a xs ds' ha hxs => cases h; exact ⟨a, xs, rfl, hxs, .inr ⟨rfl, ha⟩⟩
  | @rol a xs ds' ha hxs => cases h; exact ⟨a, xs, rfl, hxs, .inl (SqP.sq ha)⟩
  | @obj a n hn =>
    obtain ⟨xs, hx, hxs⟩ := r.rdL (show rdL g n = some ds from h) hn
    exact ⟨a, xs, rfl, hxs, .inl (SqL.of hx)⟩
  | _ => cases h
theorem cr_tuple : CallR X (.type "tuple") (rFL X.mg X.K opTuple) := CallR.any fun xs H Q ⟨ι, g, ds, r, hd, h⟩ => by
  cases hd with
  | nil => exact h.elim
  | @cons v vs d ds hv hvs =>
    cases hvs with
    | cons _ _ => exact h.elim
    | nil =>
      cases e : seqOf d g with
      | none => simp only [opTuple, e] at h; exact h.elim
      | some es =>
        simp only [opTuple, e] at h
        obtain ⟨a, xs, rfl, hxs, q⟩ := seq_of r e hv
        rcases q with q | ⟨rfl, q⟩
        · exact ⟨_, call_tuple_of, a, xs, rfl, .inl ⟨q, RunO.newT (r := r) h hxs⟩⟩
        · exact ⟨_, call_tuple_of, a, xs, rfl, .inr ⟨q.1, RunO.plain r h (.tup q hxs)⟩⟩
theorem cr_list : CallR X (.type "list") (rFL X.mg X.K opList) := CallR.any fun xs H Q ⟨ι, g, ds, r, hd, h⟩ => by
  cases hd with
  | nil => exact h.elim
  | @cons v vs d ds hv hvs =>
    cases hvs with
    | cons _ _ => exact h.elim
    | nil =>
      cases e : seqOf d g with
      | none => simp only [opList, e] at h; exact h.elim
      | some es =>
        simp only [opList, e] at h
        obtain ⟨a, xs, rfl, hxs, q⟩ := seq_of r e hv
        refine ⟨_, call_list_of, a, xs, rfl, ?_, RunO.newL (r := r) h hxs⟩
        rcases q with q | ⟨_, q⟩
        · exact .inl q
        · exact .inr q.1
end

/-! ### all, any, sum of lists -/
def blsOf : List D → Option (List Bool)
  | [] => some []
  | .bl b :: ds => (blsOf ds).map fun bs => b :: bs
  | _ :: _ => none
def intsOf : List D → Option (List Int)
  | [] => some []
  | .int b :: ds => (intsOf ds).map fun bs => b :: bs
  | _ :: _ => none
/-- the items of a list object -/
def lstOf (d : D) (g : GH) : Option (List D) := match d with
  | .rol ds => some ds
  | .obj n => rdL g n
  | _ => none
def opAll : OpL := fun ds g => match ds with
  | [d] => match lstOf d g with
    | some ds => (blsOf ds).map fun bs => (.bl (bs.all id), g)
    | none => none
  | _ => none
def opAny : OpL := fun ds g => match ds with
  | [d] => match lstOf d g with
    | some ds => (blsOf ds).map fun bs => (.bl (bs.any id), g)
    | none => none
  | _ => none
def opSum : OpL := fun ds g => match ds with
  | [d] => match lstOf d g with
    | some ds => (intsOf ds).map fun ns => (.int ns.sum, g)
    | none => none
  | _ => none
section
variable {X : Cx} {K : PySem.W.Frag} {mg : Str → Option Value} {ι : List Addr} {g : GH} {H : Hp}
theorem lst_of (r : Rel mg K ι g H) {d : D} {ds : List D} {v : V} (h : lstOf d g = some ds) (hv : Den K ι H v d) : ∃ a xs, v = .ref a ∧ DenAll K ι H xs ds ∧ SqL K H a xs := by
  cases hv with
  | @rol a xs ds' ha hxs => cases h; exact ⟨a, xs, rfl, hxs, SqP.sq ha⟩
  | @obj a n hn =>
    obtain ⟨xs, hx, hxs⟩ := r.rdL (show rdL g n = some ds from h) hn
    exact ⟨a, xs, rfl, hxs, SqL.of hx⟩
  | _ => cases h
theorem bls_den : ∀ {ds : List D} {bs : List Bool} {xs : List V}, blsOf ds = some bs → DenAll K ι H xs ds → xs = bs.map V.bl
  | [], bs, xs, h, q => by cases q; cases h; rfl
  | d :: ds, bs, xs, h, q => by
    cases q with
    | cons a b =>
      cases a with
      | bl c =>
        unfold blsOf at h
        cases e : blsOf ds with
        | none => rw [e] at h; cases h
        | some l => rw [e] at h; cases h; rw [bls_den e b]; rfl
      | _ => cases h
theorem ints_den : ∀ {ds : List D} {bs : List Int} {xs : List V}, intsOf ds = some bs → DenAll K ι H xs ds → xs = bs.map V.int
  | [], bs, xs, h, q => by cases q; cases h; rfl
  | d :: ds, bs, xs, h, q => by
    cases q with
    | cons a b =>
      cases a with
      | int c =>
        unfold intsOf at h
        cases e : intsOf ds with
        | none => rw [e] at h; cases h
        | some l => rw [e] at h; cases h; rw [ints_den e b]; rfl
      | _ => cases h
theorem cr_allL (hc : X.calm = true) : CallR X (.builtin "all") (rFL X.mg X.K opAll) := CallR.any fun xs H Q ⟨ι, g, ds, r, hd, h⟩ => by
  cases hd with
  | nil => exact h.elim
  | @cons v vs d ds hv hvs =>
    cases hvs with
    | cons _ _ => exact h.elim
    | nil =>
      cases e : lstOf d g with
      | none => simp only [opAll, e] at h; exact h.elim
      | some es =>
        simp only [opAll, e] at h
        cases e2 : blsOf es with
        | none => rw [e2] at h; exact h.elim
        | some bs =>
          rw [e2] at h
          obtain ⟨a, xs, rfl, hxs, q⟩ := lst_of r e hv
          have ex := bls_den e2 hxs
          subst ex
          exact ⟨_, cr_all hc, a, bs, rfl, q, RunO.plain r h (.bl _)⟩
theorem cr_anyL (hc : X.calm = true) : CallR X (.builtin "any") (rFL X.mg X.K opAny) := CallR.any fun xs H Q ⟨ι, g, ds, r, hd, h⟩ => by
  cases hd with
  | nil => exact h.elim
  | @cons v vs d ds hv hvs =>
    cases hvs with
    | cons _ _ => exact h.elim
    | nil =>
      cases e : lstOf d g with
      | none => simp only [opAny, e] at h; exact h.elim
      | some es =>
        simp only [opAny, e] at h
        cases e2 : blsOf es with
        | none => rw [e2] at h; exact h.elim
        | some bs =>
          rw [e2] at h
          obtain ⟨a, xs, rfl, hxs, q⟩ := lst_of r e hv
          have ex := bls_den e2 hxs
          subst ex
          exact ⟨_, cr_any hc, a, bs, rfl, q, RunO.plain r h (.bl _)⟩
theorem cr_sumL (hc : X.calm = true) : CallR X (.builtin "sum") (rFL X.mg X.K opSum) := CallR.any fun xs H Q ⟨ι, g, ds, r, hd, h⟩ => by
  cases hd with
  | nil => exact h.elim
  | @cons v vs d ds hv hvs =>
    cases hvs with
    | cons _ _ => exact h.elim
    | nil =>
      cases e : lstOf d g with
      | none => simp only [opSum, e] at h; exact h.elim
      | some es =>
        simp only [opSum, e] at h
        cases e2 : intsOf es with
        | none => rw [e2] at h; exact h.elim
        | some bs =>
          rw [e2] at h
          obtain ⟨a, xs, rfl, hxs, q⟩ := lst_of r e hv
          have ex := ints_den e2 hxs
          subst ex
          exact ⟨_, cr_sum hc, a, bs, rfl, q, RunO.plain r h (.int _)⟩
end

/-! ### isinstance(x, T), T a built-in class -/
def tyName (d : D) (g : GH) : Option String := match d with
  | .non => some "NoneType"
  | .bl _ => some "bool"
  | .int _ => some "int"
  | .str _ => some "str"
  | .tup _ => some "tuple"
  | .rol _ => some "list"
  | .obj n => match g[n]? with
    | some (.lst _) => some "list"
    | some (.dct _ _) => some "dict"
    | some (.frz (.dct false _)) => some "dict"
    | _ => none
def opIsi (T : String) : Op1 := fun d g => match tyName d g with
  | some n => (kitB n T).map fun b => (.bl b, g)
  | none => none
section
variable {X : Cx} {W : WX} {pos p p2 : Pos} {e : Expr} {m : EM}
theorem tyX_of {mg : Str → Option Value} {K : PySem.W.Frag} {ι : List Addr} {g : GH} {H : Hp} (r : Rel mg K ι g H) {d : D} {n : String} {v : V} (h : tyName d g = some n) (hv : Den K ι H v d) : TyX K H v (.type n) := by
  cases hv with
  | non => cases h; exact .base .non
  | bl b => cases h; exact .base (.bl b)
  | int i => cases h; exact .base (.int i)
  | str x => cases h; exact .base (.str x)
  | @tup a xs ds ha hxs =>
    cases h
    rcases ha.1 with (q | ⟨o, q⟩) | ⟨o, its, n, h1, h2, _⟩
    · exact .base (.tup q)
    · exact .fTuple q
    · exact .kTuple h1 h2
  | @rol a xs ds ha hxs =>
    cases h
    rcases ha with ⟨o, q⟩ | ⟨o, its, n, h1, h2, _⟩
    · exact .base (.frz q.1)
    · exact .kList h1 h2
  | @obj a k hk =>
    unfold tyName at h
    simp only at h
    cases e1 : g[k]? with
    | none => rw [e1] at h; cases h
    | some ob =>
      rw [e1] at h
      have q := r.at_ k ob a e1 hk
      cases ob with
      | lst ds => cases h; obtain ⟨xs, hx, _⟩ := q; exact .base (.lst hx)
      | dct t kvs =>
        cases h
        obtain ⟨u, hu, dc⟩ := q
        rcases dc with ⟨_, ps, rfl, _⟩ | ⟨_, ps, rfl, _⟩
        · exact .base (.dK hu)
        · exact .base (.dT hu)
      | ins c fs => cases h
      | frz ob =>
        cases ob with
        | lst ds => cases h
        | dct t kvs =>
          cases t with
          | true => cases h
          | false =>
            cases h
            obtain ⟨o, u, hu, dc⟩ := q
            rcases dc with ⟨_, ps, rfl, _⟩ | ⟨z, _⟩
            · exact .fDict hu
            · cases z
        | ins c fs => cases h
        | frz _ => cases h
theorem se_isi (T : String) {n : Str} (hg : Gl X "isinstance") (hm : X.mg "isinstance" = none) (hv : bootBuiltins "isinstance" = some (.builtin "isinstance")) (he : SE X W e m) (hgT : Gl X n) (hmT : X.mg n = none) (hvT : bootBuiltins n = some (.type T)) (hnT : n ≠ "__name__" := by decide) (hdT : (n == ("__debug__" : Str)) = false := by decide)
    (hs : starEach [e, .Name n p2] X.env = (false, eval e X.env) :: starEach [.Name n p2] X.env := by rfl) (hpl : (backTo pos (starEach [.Name n p2] X.env)).any (·.1) = false := by rfl) : SE X W (.Call (.Name "isinstance" p) [e, .Name n p2] [] pos) (mOp1 (opIsi T) m) :=
  ⟨PE.imp (pe_callB call_isi hg hm hv (pa_cons he.pe (pa_cons (pe_bltn (v := .ty T) hgT hmT hvT rfl hnT hdT) pa_nil) hs) (by decide) (by decide) hs hpl) fun σ H Q h => by
    obtain ⟨ι, g, ρ, r, hρ, h⟩ := tF_op1 σ H Q h
    refine ⟨ι, g, ρ, r, hρ, RunX.mono h fun v H1 ⟨ι1, g1, d, r1, hd, h1⟩ => ?_⟩
    cases e1 : tyName d g1 with
    | none => simp only [opIsi, e1] at h1; exact h1.elim
    | some tn =>
      simp only [opIsi, e1] at h1
      cases e2 : kitB tn T with
      | none => rw [e2] at h1; exact h1.elim
      | some b =>
        rw [e2] at h1
        exact ⟨v, .ty T, .type tn, .type T, b, rfl, .ty T, tyX_of r1 e1 hd, kit_ty e2, RunO.plain r1 h1 (.bl b)⟩⟩
end

/-! ### methods of built-ins -/
/-- what type's methods it has -/
def isTy (T : String) (d : D) (g : GH) : Bool := match d with
  | .str _ => T == "str"
  | .rol _ => T == "list"
  | .obj n => match g[n]? with
    | some (.lst _) => T == "list"
    | some (.dct _ _) => T == "dict"
    | _ => false
  | _ => false
abbrev OpM := D → List D → GH → Option (D × GH)
def mMt (T : String) (f : OpM) (o : EM) (a : AM) : EM := fun ρ g => (o ρ g).bind fun d g1 => if isTy T d g1 = true then (a ρ g1).bind fun ds g2 => lift (f d ds g2) else .bad
def rFM (mg : Str → Option Value) (K : PySem.W.Frag) (f : OpM) : V → List V → Hp → VK → Prop := fun x xs H Q => ∃ ι g d ds, Rel mg K ι g H ∧ Den K ι H x d ∧ DenAll K ι H xs ds ∧ RunO mg K ι H Q (f d ds g)
section
variable {X : Cx} {W : WX} {o e : Expr} {es : List Expr} {name : Str} {apos cpos : Pos} {T id : String} {f : OpM} {mo : EM} {ma : AM}
theorem isTy_of {mg : Str → Option Value} {K : PySem.W.Frag} {ι : List Addr} {g : GH} {H : Hp} (r : Rel mg K ι g H) {d : D} {v : V} (h : isTy T d g = true) (hv : Den K ι H v d) : tyV K T v H := by
  cases hv with
  | str x => exact (show T = "str" by simpa [isTy] using h)
  | @rol a xs ds ha hxs => exact .inl ⟨by simpa [isTy] using h, xs, SqP.sq ha⟩
  | @obj a n hn =>
    unfold isTy at h
    simp only at h
    cases e1 : g[n]? with
    | none => rw [e1] at h; cases h
    | some ob =>
      rw [e1] at h
      have q := r.at_ n ob a e1 hn
      cases ob with
      | lst ds => obtain ⟨xs, hx, _⟩ := q; exact .inl ⟨by simpa using h, xs, SqL.of hx⟩
      | dct t kvs =>
        obtain ⟨u, hu, dc⟩ := q
        refine .inr (.inr (.inl ⟨by simpa using h, ?_⟩))
        rcases dc with ⟨_, ps, rfl, _⟩ | ⟨_, ps, rfl, _⟩
        · exact .inl ⟨ps, hu⟩
        · exact .inr ⟨ps, hu⟩
      | ins c fs => cases h
      | frz ob => cases ob <;> cases h
  | _ => cases h
theorem tF_mt {mg : Str → Option Value} {K : PySem.W.Frag} : ∀ σ H Q, tF mg K W (mMt T f mo ma) σ H Q → tBM K T (rFM mg K f) (tF mg K W mo) (tFA mg K W ma) σ H Q := fun σ H Q ⟨ι, g, ρ, r, hρ, h⟩ => by
  refine ⟨ι, g, ρ, r, hρ, RunX.mono (RunX.bind (Dn := fun ι H v d => Den K ι H v d) h) fun v H1 ⟨ι1, g1, d, s1, hd, h1⟩ => ?_⟩
  by_cases ht : isTy T d g1 = true
  · rw [if_pos ht] at h1
    refine ⟨isTy_of s1.rel ht hd, ι1, g1, ρ, s1.rel, hρ.step s1, RunX.mono (RunX.bind (Dn := fun ι H v d => DenAll K ι H v d) h1) fun vs H2 ⟨ι2, g2, ds, s2, hds, h2⟩ => ?_⟩
    exact ⟨ι2, g2, d, ds, s2.rel, s2.den hd, hds, runO_of h2⟩
  · rw [if_neg ht] at h1; exact h1.elim
theorem MtR.any {r : V → List V → Hp → VK → Prop} (h : ∀ x xs H Q, r x xs H Q → ∃ r', MtR X id r' ∧ r' x xs H Q) : MtR X id r := fun pins s σ H x xs v us Q I rx rv q => by
  obtain ⟨r', h1, h2⟩ := h x xs H Q q
  exact h1 pins s σ H x xs v us Q I rx rv h2
theorem se_mt (pa : PlainAttrs T) (slot : Slot T name id) (hty : typeOf (.builtin id) = pure (.type "method_descriptor")) (hm : MtR X id (rFM X.mg X.K f)) (ho : SE X W o mo) (ha : SA X W (e :: es) ma)
    (hbase : attributeBase o name X.env (eval o X.env) = eval o X.env := by rfl)
    (hfew : ((backTo cpos (starEach (e :: es) X.env)).all (fun x => !x.1) && (backToKw cpos (keywordEach [] X.env)).all (fun x => x.1.isSome)
      && decide ((e :: es).length + ([] : List Keyword).length + (if ([] : List Keyword).isEmpty then 0 else 1) < 30)) = true := by rfl)
    (hline : (apos.endLine == cpos.line) = true := by rfl) (hs : starEach (e :: es) X.env = (false, eval e X.env) :: starEach es X.env := by rfl) (hplain : (backTo cpos (starEach es X.env)).any (·.1) = false := by rfl) :
    SE X W (.Call (.Attribute o name apos) (e :: es) [] cpos) (mMt T f mo ma) := ⟨PE.imp (pe_bm pa slot hty hm ho.pe ha.pa hbase hfew hline hs hplain) tF_mt⟩
theorem se_mt0 (pa : PlainAttrs T) (slot : Slot T name id) (hty : typeOf (.builtin id) = pure (.type "method_descriptor")) (hm : MtR X id (rFM X.mg X.K f)) (ho : SE X W o mo)
    (hbase : attributeBase o name X.env (eval o X.env) = eval o X.env := by rfl) (hline : (apos.endLine == cpos.line) = true := by rfl) :
    SE X W (.Call (.Attribute o name apos) [] [] cpos) (mMt T f mo mNil) := ⟨PE.imp (pe_bm0 pa slot hty hm ho.pe hbase hline) fun σ H Q h => by
  obtain ⟨ι, g, ρ, r, hρ, h⟩ := tF_mt σ H Q h
  refine ⟨ι, g, ρ, r, hρ, RunX.mono h fun v H1 ⟨h1, h2⟩ => ⟨h1, ?_⟩⟩
  obtain ⟨ι1, g1, ρ1, r1, hρ1, h3⟩ := h2
  exact h3 ι1 H1 [] (Step.refl r1) .nil⟩

/-! lists -/
def opAppend : OpM := fun o ds g => match o, ds with
  | .obj n, [d] => match g[n]? with
    | some (.lst es) => if es.length < sizeLine then some (.non, g.set n (.lst (es ++ [d]))) else none
    | _ => none
  | _, _ => none
def opExtend : OpM := fun o ds g => match o, ds with
  | .obj n, [.obj m] => match g[n]?, g[m]? with
    | some (.lst es), some (.lst fs) => if es.length + fs.length ≤ sizeLine then some (.non, g.set n (.lst (es ++ fs))) else none
    | _, _ => none
  | _, _ => none
def opPop : OpM := fun o ds g => match o, ds with
  | .obj n, [] => match g[n]? with
    | some (.lst es) => match es[es.length - 1]? with
      | some d => some (d, g.set n (.lst es.dropLast))
      | none => none
    | _ => none
  | _, _ => none
def opPopAt : OpM := fun o ds g => match o, ds with
  | .obj n, [.int i] => match g[n]? with
    | some (.lst es) => if 0 ≤ i ∧ i < es.length ∧ es.length ≤ sizeLine then match es[i.toNat]? with
      | some d => some (d, g.set n (.lst (es.eraseIdx i.toNat)))
      | none => none
      else none
    | _ => none
  | _, _ => none
theorem DenAll.dropLast {K : PySem.W.Frag} {ι : List Addr} {H : Hp} {xs : List V} {ds : List D} (h : DenAll K ι H xs ds) : DenAll K ι H xs.dropLast ds.dropLast := by
  rw [List.dropLast_eq_take, List.dropLast_eq_take, h.length]
  exact h.take _
/-- a list's object is written -/
theorem RunO.put {mg : Str → Option Value} {K : PySem.W.Frag} {ι : List Addr} {g : GH} {H : Hp} {r : Rel mg K ι g H} {Q : V → Hp → Prop} {n : Nat} {a : Addr} {es : List D} {xs : List V} {d : D} {v : V} (h : RunO mg K ι H Q (some (d, g.set n (.lst es)))) (hn : ι[n]? = some a) {ys0 : List V} (hy : H a = some (.lst ys0)) (hx : DenAll K ι H xs es) (hv : Den K ι H v d) : Q v (upd H a (.lst xs)) := by
  have s : Step mg K ι H ι (g.set n (.lst es)) (upd H a (.lst xs)) := Step.write r hn (fun H' hT hP hH => ⟨_, hH, DenAll.mono (fun _ _ h => h) hT hP _ _ hx⟩) fun ob x z => by rw [hy] at z; cases z
  exact h ι _ v s (s.den hv)
theorem mr_append : MtR X "list.append" (rFM X.mg X.K opAppend) := MtR.any fun x xs H Q ⟨ι, g, o, ds, r, ho, hds, h⟩ => by
  cases ho with
  | @obj a n hn =>
    cases hds with
    | nil => exact h.elim
    | @cons v vs d ds hv hvs =>
      cases hvs with
      | cons _ _ => exact h.elim
      | nil =>
        cases e1 : g[n]? with
        | none => simp only [opAppend, e1] at h; exact h.elim
        | some ob =>
          cases ob with
          | lst es =>
            simp only [opAppend, e1] at h
            by_cases hl : es.length < sizeLine
            · rw [if_pos hl] at h
              obtain ⟨ys, hy, hys⟩ := r.at_ n _ a e1 hn
              exact ⟨_, mt_append, a, ys, v, rfl, rfl, hy, by rw [hys.length]; exact hl, RunO.put (r := r) h hn hy (hys.append (.cons hv .nil)) .non⟩
            · rw [if_neg hl] at h; exact h.elim
          | _ => simp only [opAppend, e1] at h; exact h.elim
  | _ => exact h.elim
theorem mr_extend : MtR X "list.extend" (rFM X.mg X.K opExtend) := MtR.any fun x xs H Q ⟨ι, g, o, ds, r, ho, hds, h⟩ => by
  cases ho with
  | @obj a n hn =>
    cases hds with
    | nil => exact h.elim
    | @cons v vs d ds hv hvs =>
      cases hv with
      | @obj b k hk =>
        cases hvs with
        | cons _ _ => exact h.elim
        | nil =>
          cases e1 : g[n]? with
          | none => simp only [opExtend, e1] at h; exact h.elim
          | some ob =>
            cases e2 : g[k]? with
            | none => cases ob <;> (simp only [opExtend, e1, e2] at h; exact h.elim)
            | some oc =>
              cases ob with
              | lst es =>
                cases oc with
                | lst fs =>
                  simp only [opExtend, e1, e2] at h
                  by_cases hl : es.length + fs.length ≤ sizeLine
                  · rw [if_pos hl] at h
                    obtain ⟨ys, hy, hys⟩ := r.at_ n _ a e1 hn
                    obtain ⟨zs, hz, hzs⟩ := r.at_ k _ b e2 hk
                    exact ⟨_, mt_extend, a, b, ys, zs, rfl, rfl, hy, hz, by rw [hys.length, hzs.length]; exact hl, RunO.put (r := r) h hn hy (hys.append hzs) .non⟩
                  · rw [if_neg hl] at h; exact h.elim
                | _ => simp only [opExtend, e1, e2] at h; exact h.elim
              | _ => cases oc <;> (simp only [opExtend, e1, e2] at h; exact h.elim)
      | _ => exact h.elim
  | _ => exact h.elim
theorem mr_pop : MtR X "list.pop" (rFM X.mg X.K opPop) := MtR.any fun x xs H Q ⟨ι, g, o, ds, r, ho, hds, h⟩ => by
  cases ho with
  | @obj a n hn =>
    cases hds with
    | cons _ _ => exact h.elim
    | nil =>
      cases e1 : g[n]? with
      | none => simp only [opPop, e1] at h; exact h.elim
      | some ob =>
        cases ob with
        | lst es =>
          simp only [opPop, e1] at h
          cases e2 : es[es.length - 1]? with
          | none => rw [e2] at h; exact h.elim
          | some d =>
            rw [e2] at h
            obtain ⟨ys, hy, hys⟩ := r.at_ n _ a e1 hn
            obtain ⟨w, hw, hd⟩ := hys.get e2
            exact ⟨_, mt_pop, a, ys, w, rfl, rfl, hy, by rw [hys.length]; exact hw, RunO.put (r := r) h hn hy hys.dropLast hd⟩
        | _ => simp only [opPop, e1] at h; exact h.elim
  | _ => exact h.elim
theorem mr_popAt : MtR X "list.pop" (rFM X.mg X.K opPopAt) := MtR.any fun x xs H Q ⟨ι, g, o, ds, r, ho, hds, h⟩ => by
  cases ho with
  | @obj a n hn =>
    cases hds with
    | nil => exact h.elim
    | @cons v vs d ds hv hvs =>
      cases hv with
      | int i =>
        cases hvs with
        | cons _ _ => exact h.elim
        | nil =>
          cases e1 : g[n]? with
          | none => simp only [opPopAt, e1] at h; exact h.elim
          | some ob =>
            cases ob with
            | lst es =>
              simp only [opPopAt, e1] at h
              by_cases hi : 0 ≤ i ∧ i < es.length ∧ es.length ≤ sizeLine
              · rw [if_pos hi] at h
                cases e2 : es[i.toNat]? with
                | none => rw [e2] at h; exact h.elim
                | some d =>
                  rw [e2] at h
                  obtain ⟨ys, hy, hys⟩ := r.at_ n _ a e1 hn
                  obtain ⟨w, hw, hd⟩ := hys.get e2
                  have hl := hys.length
                  have hz := sizeLine_eq
                  refine ⟨_, mt_popAt, a, ys, i, i.toNat, w, rfl, rfl, hy, by omega, by omega, ?_, hw, RunO.put (r := r) h hn hy (hys.eraseIdx _) hd⟩
                  exact seqIndex_of hi.1 (by rw [hl]; exact hi.2.1)
              · rw [if_neg hi] at h; exact h.elim
            | _ => simp only [opPopAt, e1] at h; exact h.elim
      | _ => exact h.elim
  | _ => exact h.elim
end

/-! ### d.get(k), d.get(k, x) -/
def opDGet (d k x : D) (g : GH) : Option (D × GH) := match d with
  | .obj n => match rdD g n with
    | some (t, kvs) => if keyOk t k = true then some ((dGet kvs k).getD x, g) else none
    | none => none
  | _ => none
def isDct (d : D) (g : GH) : Bool := match d with
  | .obj n => (rdD g n).isSome
  | _ => false
def mDGet (o k : EM) : EM := fun ρ g => (o ρ g).bind fun d g1 => if isDct d g1 = true then (k ρ g1).bind fun y g2 => lift (opDGet d y .non g2) else .bad
def mDGet2 (o k x : EM) : EM := fun ρ g => (o ρ g).bind fun d g1 => if isDct d g1 = true then (k ρ g1).bind fun y g2 => (x ρ g2).bind fun z g3 => lift (opDGet d y z g3) else .bad
section
variable {X : Cx} {W : WX} {o e f : Expr} {apos cpos : Pos} {mo me mf : EM}
theorem isDct_of {mg : Str → Option Value} {K : PySem.W.Frag} {ι : List Addr} {g : GH} {H : Hp} (r : Rel mg K ι g H) {d : D} {v : V} (h : isDct d g = true) (hv : Den K ι H v d) : ∃ a, v = .ref a ∧ IsD H a := by
  cases hv with
  | @obj a n hn =>
    unfold isDct at h
    simp only at h
    cases e1 : rdD g n with
    | none => rw [e1] at h; cases h
    | some p =>
      obtain ⟨t, kvs⟩ := p
      obtain ⟨u, rd, dc⟩ := r.rdD e1 hn
      refine ⟨a, rfl, ?_⟩
      rcases dc with ⟨_, ps, rfl, _⟩ | ⟨_, ps, rfl, _⟩
      · exact .inl ⟨ps, rd⟩
      · exact .inr ⟨ps, rd⟩
  | _ => cases h
theorem dget_run {mg : Str → Option Value} {K : PySem.W.Frag} {ι : List Addr} {g : GH} {H : Hp} {Q : VK} (r : Rel mg K ι g H) {d k x : D} {v y z : V} (hv : Den K ι H v d) (hk : Den K ι H y k) (hx : Den K ι H z x) (h : RunO mg K ι H Q (opDGet d k x g)) : ∃ a o, v = .ref a ∧ DGet H a y o ∧ Q (o.getD z) H := by
  cases hv with
  | @obj a n hn =>
    cases e1 : rdD g n with
    | none => simp only [opDGet, e1] at h; exact h.elim
    | some p =>
      obtain ⟨t, kvs⟩ := p
      simp only [opDGet, e1] at h
      by_cases hko : keyOk t k = true
      · rw [if_pos hko] at h
        have q := dget_of r e1 hn hko hk
        cases e2 : dGet kvs k with
        | none => rw [e2] at h; exact ⟨a, none, rfl, q.2 e2, RunO.plain r h hx⟩
        | some w =>
          rw [e2] at h
          obtain ⟨u, h1, h2⟩ := q.1 w e2
          exact ⟨a, some u, rfl, h1, RunO.plain r h h2⟩
      · rw [if_neg hko] at h; exact h.elim
  | _ => exact h.elim
theorem se_dget (hu : X.A.units + 1 < cLine) (ho : SE X W o mo) (he : SE X W e me) (m : M1 X o "get" apos e cpos := by exact ⟨rfl, rfl, rfl, rfl⟩) : SE X W (.Call (.Attribute o "get" apos) [e] [] cpos) (mDGet mo me) := ⟨PE.imp (pe_dget1 hu ho.pe he.pe m) fun σ H Q ⟨ι, g, ρ, r, hρ, h⟩ => by
  refine ⟨ι, g, ρ, r, hρ, RunX.mono (RunX.bind (Dn := fun ι H v d => Den X.K ι H v d) h) fun v H1 ⟨ι1, g1, d, s1, hd, h1⟩ => ?_⟩
  by_cases ht : isDct d g1 = true
  · rw [if_pos ht] at h1
    obtain ⟨a, rfl, ha⟩ := isDct_of s1.rel ht hd
    refine ⟨a, rfl, ha, ι1, g1, ρ, s1.rel, hρ.step s1, RunX.mono (RunX.bind (Dn := fun ι H v d => Den X.K ι H v d) h1) fun y H2 ⟨ι2, g2, k, s2, hk, h2⟩ => ?_⟩
    obtain ⟨b, o, e, h3, h4⟩ := dget_run s2.rel (s2.den hd) hk .non (runO_of h2)
    cases e
    exact ⟨o, h3, h4⟩
  · rw [if_neg ht] at h1; exact h1.elim⟩
theorem se_dget2 (hu : X.A.units + 1 < cLine) (ho : SE X W o mo) (he : SE X W e me) (hf : SE X W f mf) (m : M2 X o "get" apos e f cpos := by exact ⟨rfl, rfl, rfl, rfl⟩) : SE X W (.Call (.Attribute o "get" apos) [e, f] [] cpos) (mDGet2 mo me mf) := ⟨PE.imp (pe_dget2 hu ho.pe he.pe hf.pe m) fun σ H Q ⟨ι, g, ρ, r, hρ, h⟩ => by
  refine ⟨ι, g, ρ, r, hρ, RunX.mono (RunX.bind (Dn := fun ι H v d => Den X.K ι H v d) h) fun v H1 ⟨ι1, g1, d, s1, hd, h1⟩ => ?_⟩
  by_cases ht : isDct d g1 = true
  · rw [if_pos ht] at h1
    obtain ⟨a, rfl, ha⟩ := isDct_of s1.rel ht hd
    refine ⟨a, rfl, ha, ι1, g1, ρ, s1.rel, hρ.step s1, RunX.mono (RunX.bind (Dn := fun ι H v d => Den X.K ι H v d) h1) fun y H2 ⟨ι2, g2, k, s2, hk, h2⟩ => ?_⟩
    refine ⟨ι2, g2, ρ, s2.rel, (hρ.step s1).step s2, RunX.mono (RunX.bind (Dn := fun ι H v d => Den X.K ι H v d) h2) fun z H3 ⟨ι3, g3, x, s3, hx, h3⟩ => ?_⟩
    obtain ⟨b, o, e, h4, h5⟩ := dget_run s3.rel (s3.den (s2.den hd)) (s3.den hk) hx (runO_of h3)
    cases e
    exact ⟨o, h4, h5⟩
  · rw [if_neg ht] at h1; exact h1.elim⟩
/-- {} -/
def mDNew (t : Bool) : EM := fun _ g => .ok (.obj g.length) (g ++ [.dct t []])
theorem se_dnewK {pos : Pos} : SE X W (.Dict [] [] pos) (mDNew false) := ⟨PE.imp pe_dnewK fun σ H Q ⟨ι, g, ρ, r, hρ, h⟩ => fun p hp => by
  have s2 : Step X.mg X.K ι H (ι ++ [p]) (g ++ [.dct false []]) (upd H p (.dK [])) := Step.lay r hp ⟨_, upd_same, .inl ⟨rfl, [], rfl, .nil⟩⟩
  exact h _ _ _ s2 (.obj (by rw [← r.len]; simp))⟩
theorem se_dnewT {pos : Pos} : SE X W (.Dict [] [] pos) (mDNew true) := ⟨PE.imp pe_dnewT fun σ H Q ⟨ι, g, ρ, r, hρ, h⟩ => fun p hp => by
  have s2 : Step X.mg X.K ι H (ι ++ [p]) (g ++ [.dct true []]) (upd H p (.dT [])) := Step.lay r hp ⟨_, upd_same, .inr ⟨rfl, [], rfl, .nil⟩⟩
  exact h _ _ _ s2 (.obj (by rw [← r.len]; simp))⟩
end
end L3

/-! L3H: own defs: promises by functions; calls, methods, instances; calls of pure functions. -/
namespace L3
open PySem PySem.Spec L2
open PyProof.Rows (envOfC)

/-- a def as a function of its arguments -/
abbrev FM := List D → GH → R D
def spF (mg : Str → Option Value) (K : PySem.W.Frag) (n : Nat) (M : FM) : Sp := fun vs H Q E => ∃ ι g ds, ds.length = n ∧ Rel mg K ι g H ∧ DenAll K ι H vs ds ∧ RunE mg K E ι H Q (M ds g)
/-- a def's body as a function: N slots -/
def fnM (N : Nat) (body : SM) : FM := fun ds g => match body (ds.map some ++ List.replicate (N - ds.length) none) g with
  | .ok (.rt d) g' => .ok d g'
  | .ok (.nx _) g' => .ok .non g'
  | .ok _ _ => .bad
  | .ex c fs _ g' => .ex c fs g'
  | .bad => .bad
theorem spF_len {mg : Str → Option Value} {K : PySem.W.Frag} {n : Nat} {M : FM} : ∀ vs H Q E, spF mg K n M vs H Q E → vs.length = n := fun vs H Q E ⟨ι, g, ds, hl, r, hd, h⟩ => by rw [hd.length]; exact hl
theorem envR_start {K : PySem.W.Frag} {ι : List Addr} {H : Hp} {vs : List V} {ds : List D} (h : DenAll K ι H vs ds) (N : List Str) : EnvR K ι H (L2.start N vs) (ds.map some ++ List.replicate (N.length - ds.length) none) := by
  unfold L2.start
  rw [h.length]
  refine ⟨by simp [h.length], fun i d hi => ?_⟩
  by_cases hl : i < ds.length
  · rw [List.getElem?_append_left (by simpa using hl), List.getElem?_map] at hi
    cases q : ds[i]? with
    | none => rw [q] at hi; cases hi
    | some e =>
      rw [q] at hi
      cases hi
      obtain ⟨v, h1, h2⟩ := h.get q
      refine ⟨v, ?_, h2⟩
      rw [List.getElem?_append_left (by simpa [h.length] using hl), List.getElem?_map, h1]
      rfl
  · rw [List.getElem?_append_right (by simpa using hl), List.getElem?_replicate] at hi
    split at hi <;> cases hi
section
variable {P : Program} {w : World} {K : PySem.W.Frag} {mg : Str → Option Value} {base : Heap}
/-- THE RULE: a def by its body's function -/
theorem fnOk {x qual : Str} {st : Stmt} {f : Addr} {fd : FuncData} {N ps : List Str} {k : Nat} {m : SM} (F : Fun K x qual st f fd) (S : FnScope N ps (defScope st))
    (hbody : ∀ (cdv : Value) (A : Around) (outer : List Env) (s : Shared) (H : Hp) (E : XK), Room k (A.deeper (envOfC qual (defScope st) s.heap.objs.size f cdv)) →
      SSs (cxOf (L2.CX P w) P w K mg base N qual (defScope st) f cdv A outer s H E) (fun cls d _ H => E cls d H) (defBody st) m) :
    FnOk P w K mg base (L2.CX P w) (k + 1) f fd ps (spF mg K ps.length (fnM N.length m)) := by
  refine F.okX S spF_len fun cdv A outer s H vs Q E hr ⟨ι, g, ds, hl, r, hd, h⟩ => ⟨_, (hbody cdv A outer s H E hr).ps, ?_⟩
  refine ⟨ι, g, _, r, envR_start hd N, ?_⟩
  unfold fnM at h
  show RunS mg K _ _ ι H _
  cases e : m (ds.map some ++ List.replicate (N.length - ds.length) none) g with
  | ok fl g' =>
    rw [e] at h
    cases fl with
    | rt d => exact h
    | nx ρ => exact fun ι' H' σ' s' _ => h ι' H' .non s' .non
    | bk ρ => exact h.elim
    | ct ρ => exact h.elim
  | ex c fs ρ g' => rw [e] at h; exact fun ι' H' σ' cls dx s' _ x => h ι' H' cls dx s' x
  | bad => rw [e] at h; exact h
end

def mCall (M : FM) (n : Nat) (a : AM) : EM := fun ρ g => (a ρ g).bind fun ds g1 => if ds.length = n then M ds g1 else .bad
/-- the defaults behind the written arguments -/
def mCallD (M : FM) (n : Nat) (dd : List D) (a : AM) : EM := fun ρ g => (a ρ g).bind fun ds g1 => if (ds ++ dd).length = n then M (ds ++ dd) g1 else .bad
section
variable {X : Cx} {W : WX} {k : Nat} {f C : Addr} {fd : FuncData} {ps : List Str} {n : Nat} {M : FM} {x : Str} {p pos apos : Pos} {e o : Expr} {es : List Expr} {ma : AM} {mo : EM}
theorem sp_run {ι : List Addr} {g : GH} {H : Hp} {vs : List V} {ds : List D} {Q : VK} {σ : L2.St} (r : Rel X.mg X.K ι g H) (hd : DenAll X.K ι H vs ds) (h : RunE X.mg X.K (fun c d H' => W c d σ H') ι H Q (if ds.length = n then M ds g else .bad)) : spF X.mg X.K n M vs H Q (WE W σ) := by
  by_cases hl : ds.length = n
  · rw [if_pos hl] at h
    exact ⟨ι, g, ds, hl, r, hd, h⟩
  · rw [if_neg hl] at h; exact h.elim
theorem se_call (F : FnOk X.prog X.w X.K X.mg X.base (L2.CX X.prog X.w) k f fd ps (spF X.mg X.K n M)) (hr : Room k X.A) (hm : X.mg x = some (.ref f)) (hk : PySem.W.keepIn X.K (.ref f) = true) (hb : Binds X.K fd ps []) (tk : Takes X W)
    (ha : SA X W (e :: es) ma) (hg : Gl X x := by rfl) (hdb : (x == ("__debug__" : Str)) = false := by decide) (he : starEach (e :: es) X.env = (false, eval e X.env) :: starEach es X.env := by rfl) (hpl : (backTo pos (starEach es X.env)).any (·.1) = false := by rfl) :
    SE X W (.Call (.Name x p) (e :: es) [] pos) (mCall M n ma) := ⟨PE.imp (pe_callSD (dvs := []) (ds := []) F hr hg hm hk hb .nil (fun σ => passAt tk σ) ha.pa hdb he hpl) fun σ H Q ⟨ι, g, ρ, r, hρ, h⟩ => by
  refine ⟨ι, g, ρ, r, hρ, RunX.mono (RunX.bind (Dn := fun ι H v d => DenAll X.K ι H v d) h) fun vs H1 ⟨ι1, g1, ds, s1, hds, h1⟩ => ?_⟩
  rw [List.append_nil]
  exact sp_run s1.rel hds h1⟩
/-- with defaults that are plain data -/
theorem se_callD {dd : List D} {dvs : List V} {ds : List Value} (F : FnOk X.prog X.w X.K X.mg X.base (L2.CX X.prog X.w) k f fd ps (spF X.mg X.K n M)) (hr : Room k X.A) (hm : X.mg x = some (.ref f)) (hk : PySem.W.keepIn X.K (.ref f) = true) (hb : Binds X.K fd ps ds) (hv : Vals dvs ds)
    (hdd : ∀ ι H, DenAll X.K ι H dvs dd) (tk : Takes X W)
    (ha : SA X W (e :: es) ma) (hg : Gl X x := by rfl) (hdb : (x == ("__debug__" : Str)) = false := by decide) (he : starEach (e :: es) X.env = (false, eval e X.env) :: starEach es X.env := by rfl) (hpl : (backTo pos (starEach es X.env)).any (·.1) = false := by rfl) :
    SE X W (.Call (.Name x p) (e :: es) [] pos) (mCallD M n dd ma) := ⟨PE.imp (pe_callSD F hr hg hm hk hb hv (fun σ => passAt tk σ) ha.pa hdb he hpl) fun σ H Q ⟨ι, g, ρ, r, hρ, h⟩ => by
  refine ⟨ι, g, ρ, r, hρ, RunX.mono (RunX.bind (Dn := fun ι H v d => DenAll X.K ι H v d) h) fun vs H1 ⟨ι1, g1, es, s1, hds, h1⟩ => ?_⟩
  exact sp_run s1.rel (hds.append (hdd ι1 H1)) h1⟩
/-- f() -/
theorem se_call0 (F : FnOk X.prog X.w X.K X.mg X.base (L2.CX X.prog X.w) k f fd [] (spF X.mg X.K 0 M)) (hr : Room k X.A) (hm : X.mg x = some (.ref f)) (hk : PySem.W.keepIn X.K (.ref f) = true) (hb : Binds X.K fd [] []) (tk : Takes X W)
    (hg : Gl X x := by rfl) (hdb : (x == ("__debug__" : Str)) = false := by decide) : SE X W (.Call (.Name x p) [] [] pos) (mCall M 0 mNil) := ⟨⟨fun pins s σ H Q I ⟨ι, g, ρ, r, hρ, h⟩ => by
  refine wpAny_Call_Name_kw (ld_glob I hg hm ?_ hdb)
  exact PySem.W.callWith_K0 I.kIn hk (run_fnSD (us := []) (vs := []) (dvs := []) (ds := []) (E := WE W) F hr hb .nil (passAt tk σ) I .nil ⟨ι, g, [], rfl, r, .nil, h⟩)⟩⟩

/-! ### methods -/
/-- o.m(..), o an instance of the class c -/
def mMeth (c m : Str) (M : FM) (n : Nat) (o : EM) (a : AM) : EM := fun ρ g => (o ρ g).bind fun d g1 => match d with
  | .obj k => match g1[k]? with
    | some (.ins c' fs) => if c' = c ∧ fGet fs m = none then (a ρ g1).bind fun ds g2 => if (d :: ds).length = n then M (d :: ds) g2 else .bad else .bad
    | _ => .bad
  | _ => .bad
theorem fld_none {K : PySem.W.Frag} {ι : List Addr} {H : Hp} {f : Str} : ∀ {ps : List (Str × V)} {fs : List (Str × D)}, FldR K ι H ps fs → fGet fs f = none → ps.lookup f = none
  | _, _, .nil, _ => rfl
  | _, _, @Paired.cons _ _ _ p q ps fs r t, h => by
    obtain ⟨pk, pv⟩ := p
    obtain ⟨qk, qv⟩ := q
    obtain ⟨e, hd⟩ := r
    simp only at e hd
    subst e
    by_cases hk : pk = f
    · subst hk
      simp [fGet] at h
    · have e1 : fGet ((pk, qv) :: fs) f = fGet fs f := by simp [fGet, List.find?_cons, hk]
      rw [e1] at h
      rw [List.lookup_cons]
      have : (f == pk) = false := by simpa using fun z : f = pk => hk z.symm
      rw [this]
      exact fld_none t h
theorem se_meth {c m : Str} {pl : Sem Bool} (he : SE X W o mo) (hC : X.mg c = some (.ref C)) (cl : Cls X.K C) (hm : Meth X.K C m f) (F : FnOk X.prog X.w X.K X.mg X.base (L2.CX X.prog X.w) k f fd ps (spF X.mg X.K n M)) (hr : Room k X.A) (hb : Binds X.K fd ps []) (tk : Takes X W) (ha : SA X W (e :: es) ma)
    (hst : starEach (e :: es) X.env = (false, eval e X.env) :: starEach es X.env := by rfl) (hpl : (backTo pos (starEach es X.env)).any (·.1) = false := by rfl)
    (ht : eval (.Call (.Attribute o m apos) (e :: es) [] pos) X.env = (do
      let ov ← eval o X.env
      standAt apos.atName
      let (f, first) ← holding [ov] (getMethod ov m pl)
      callWith pos f first (backTo pos (starEach (e :: es) X.env)) (backToKw pos (keywordEach [] X.env))) := by rfl) :
    SE X W (.Call (.Attribute o m apos) (e :: es) [] pos) (mMeth c m M n mo ma) := ⟨⟨fun pins s σ H Q I ⟨ι, g, ρ, r, hρ, h⟩ => by
  refine PySem.W.methodCall_KW (pl := pl) (thn (he.pe.run pins s σ H _ I ⟨ι, g, ρ, r, hρ, RunX.bind (Dn := fun ι H v d => Den X.K ι H v d) h⟩) fun u s1 ⟨x, H1, I1, rx, ι1, g1, d, s1', hd, h1⟩ => ?_) ht
  cases hd with
  | @obj a j hj =>
    cases rx
    cases e1 : g1[j]? with
    | none => simp only [e1] at h1; exact h1.elim
    | some ob =>
      cases ob with
      | ins c' fs =>
        simp only [e1] at h1
        by_cases hc : c' = c ∧ fGet fs m = none
        · rw [if_pos hc] at h1
          obtain ⟨C', dx, qs, hH, hC', hf⟩ := s1'.rel.at_ j _ a e1 hj
          rw [hc.1, hC] at hC'
          cases hC'
          refine getmeth_ok I1 hH cl hm (fld_none hf hc.2) ?_
          have q := RunX.bind (Dn := fun ι H v d => DenAll X.K ι H v d) h1
          refine PySem.W.callWith_K (first := [.ref a]) (h₀ := X.base) I.ok.mod.kin hm.kp (thn (ha.pa.run pos pins s1 σ H1 _ I1 ⟨ι1, g1, ρ, s1'.rel, hρ.step s1', q⟩) fun us s2 ⟨vs, H2, I2, rv, ι2, g2, ds, s2', hds, h2⟩ => ⟨I2.kIn, ?_⟩) hst hpl
          refine run_fnSD (us := .ref a :: us) (vs := .ref a :: vs) (dvs := []) (ds := []) (E := WE W) F hr hb .nil (passAt tk σ) I2 (.cons rfl rv) ?_
          rw [List.append_nil]
          exact sp_run s2'.rel (.cons (s2'.den (.obj hj)) hds) h2
        · rw [if_neg hc] at h1; exact h1.elim
      | _ => simp only [e1] at h1; exact h1.elim
  | _ => exact h1.elim⟩⟩
theorem se_meth0 {c m : Str} {pl : Sem Bool} (he : SE X W o mo) (hC : X.mg c = some (.ref C)) (cl : Cls X.K C) (hm : Meth X.K C m f) (F : FnOk X.prog X.w X.K X.mg X.base (L2.CX X.prog X.w) k f fd ps (spF X.mg X.K n M)) (hr : Room k X.A) (hb : Binds X.K fd ps []) (tk : Takes X W)
    (ht : eval (.Call (.Attribute o m apos) [] [] pos) X.env = (do
      let ov ← eval o X.env
      standAt apos.atName
      let (f, first) ← holding [ov] (getMethod ov m pl)
      callWith pos f first (backTo pos (starEach [] X.env)) (backToKw pos (keywordEach [] X.env))) := by rfl) :
    SE X W (.Call (.Attribute o m apos) [] [] pos) (mMeth c m M n mo mNil) := ⟨⟨fun pins s σ H Q I ⟨ι, g, ρ, r, hρ, h⟩ => by
  refine PySem.W.methodCall_KW (pl := pl) (thn (he.pe.run pins s σ H _ I ⟨ι, g, ρ, r, hρ, RunX.bind (Dn := fun ι H v d => Den X.K ι H v d) h⟩) fun u s1 ⟨x, H1, I1, rx, ι1, g1, d, s1', hd, h1⟩ => ?_) ht
  cases hd with
  | @obj a j hj =>
    cases rx
    cases e1 : g1[j]? with
    | none => simp only [e1] at h1; exact h1.elim
    | some ob =>
      cases ob with
      | ins c' fs =>
        simp only [e1] at h1
        by_cases hc : c' = c ∧ fGet fs m = none
        · rw [if_pos hc] at h1
          obtain ⟨C', dx, qs, hH, hC', hf⟩ := s1'.rel.at_ j _ a e1 hj
          rw [hc.1, hC] at hC'
          cases hC'
          refine getmeth_ok I1 hH cl hm (fld_none hf hc.2) ?_
          refine PySem.W.callWith_K0 (first := [.ref a]) I1.kIn hm.kp (run_fnSD (us := [.ref a]) (vs := [.ref a]) (dvs := []) (ds := []) (E := WE W) F hr hb .nil (passAt tk σ) I1 (.cons rfl .nil) ?_)
          rw [List.append_nil]
          exact sp_run (ds := [.obj j]) s1'.rel (.cons (.obj hj) .nil) h1
        · rw [if_neg hc] at h1; exact h1.elim
      | _ => simp only [e1] at h1; exact h1.elim
  | _ => exact h1.elim⟩⟩

/-! ### C(..) -/
def mMake (c : Str) (M : FM) (n : Nat) (a : AM) : EM := fun ρ g => (a ρ g).bind fun ds g1 => if ds.length + 1 = n then (M (.obj g1.length :: ds) (g1 ++ [.ins c []])).bind fun d g2 => match d with
  | .non => .ok (.obj g1.length) g2
  | _ => .bad
  else .bad
theorem step_make {mg : Str → Option Value} {K : PySem.W.Frag} {ι : List Addr} {g : GH} {H : Hp} {c : Str} {C x dx : Addr} (r : Rel mg K ι g H) (hC : mg c = some (.ref C)) (nx : H x = none) (nd : H dx = none) (ne : dx ≠ x) :
    Step mg K ι H (ι ++ [x]) (g ++ [.ins c []]) (upd (upd H dx (.own x)) x (.ins C dx [])) := by
  have s1 : Step mg K ι H ι g (upd H dx (.own x)) := Step.side r nd
  have s2 : Step mg K ι (upd H dx (.own x)) (ι ++ [x]) (g ++ [.ins c []]) (upd (upd H dx (.own x)) x (.ins C dx [])) := Step.lay s1.rel (by rw [upd_ne (Ne.symm ne)]; exact nx) ⟨C, dx, [], upd_same, hC, .nil⟩
  exact s1.trans s2
theorem run_makeS {pins : List (Addr × Obj)} {σ : L2.St} {H : Hp} {s : Shared} {Q : VK} {us : List Value} {vs : List V} {sp : Sp} {E : L2.St → XK} (Mk0 : Mk X.K C f) (F : FnOk X.prog X.w X.K X.mg X.base (L2.CX X.prog X.w) k f fd ps sp) (hr : Room (k + 1) X.A) (hb : Binds X.K fd ps [])
    (hx : ∀ σ, PassesAt (L2.CX X.prog X.w) X σ (E σ)) (I : Inv X pins σ H s) (r : Vals vs us)
    (h : ∀ x dx, H x = none → H dx = none → dx ≠ x → sp (.ref x :: vs) (upd (upd H dx (.own x)) x (.ins C dx [])) (fun v H2 => v = .non ∧ Q (.ref x) H2) (E σ)) :
    wpAny (model X.prog X.w) X.A (call (.ref C) us) (EP X pins σ Q) X.xe s := by
  have fr1 : H (s.heap.objs.size + 1) = none := I.hok.fresh (Nat.le_succ _)
  have fr0 : H s.heap.objs.size = none := I.hok.fresh (Nat.le_refl _)
  have asked := h (s.heap.objs.size + 1) s.heap.objs.size fr1 fr0 (Nat.ne_of_lt (Nat.lt_succ_self _))
  have J := Inv.made (C := C) I
  have rr : Vals (V.ref (s.heap.objs.size + 1) :: vs) (Value.ref (s.heap.objs.size + 1) :: us) := .cons rfl r
  have ll : (Value.ref (s.heap.objs.size + 1) :: us ++ []).length = ps.length := by
    rw [List.append_nil, ← rr.length]
    exact F.len _ _ _ _ asked
  refine wpAny_call (make_map (f := f) I.kIn Mk0.makes Mk0.init (beq_iff_eq.mp Mk0.fn) (codeAny_mono (F.run _ X.stack _ _ ⟨Value.ref (s.heap.objs.size + 1) :: us, []⟩ (Value.ref (s.heap.objs.size + 1) :: us) _ _ (E σ) (hr.make C us [])
    (J.env0.make C us []) (by have z := hb _ (Value.ref (s.heap.objs.size + 1) :: us) J.kIn ll; rw [List.append_nil] at z; exact z) rr asked) fun res s' got => ?_))
  cases res with
  | error e => exact hx σ pins _ _ e s' J got
  | ok fl =>
    cases fl with
    | ret u =>
      obtain ⟨v, H', J', rv, ev, fin⟩ := J.after got
      subst ev
      exact ⟨rv, ⟨V.ref (s.heap.objs.size + 1), H', J', rfl, fin⟩⟩
    | next => exact False.elim got
    | brk => exact False.elim got
    | cont => exact False.elim got
theorem make_run {c : Str} {ι : List Addr} {g : GH} {H : Hp} {vs : List V} {ds : List D} {Q : VK} {σ : L2.St} (r : Rel X.mg X.K ι g H) (hC : X.mg c = some (.ref C)) (hd : DenAll X.K ι H vs ds)
    (h : RunE X.mg X.K (fun c d H' => W c d σ H') ι H Q (if ds.length + 1 = n then (M (.obj g.length :: ds) (g ++ [.ins c []])).bind fun d g2 => match d with
      | .non => .ok (.obj g.length) g2
      | _ => .bad
      else .bad)) : ∀ x dx, H x = none → H dx = none → dx ≠ x → spF X.mg X.K n M (.ref x :: vs) (upd (upd H dx (.own x)) x (.ins C dx [])) (fun v H2 => v = .non ∧ Q (.ref x) H2) (WE W σ) := fun x dx nx nd ne => by
  by_cases hl : ds.length + 1 = n
  · rw [if_pos hl] at h
    have s := step_make r hC nx nd ne
    refine ⟨_, _, .obj g.length :: ds, by simpa using hl, s.rel, .cons (.obj (by rw [← r.len]; simp)) (s.denAll hd), ?_⟩
    refine RunX.mono (RunX.bind (Dn := fun ι H v d => Den X.K ι H v d) (RunX.step h s)) fun v H2 ⟨ι2, g2, d, s2, hv, h2⟩ => ?_
    cases hv with
    | non => exact ⟨rfl, h2 ι2 H2 (.ref x) (Step.refl s2.rel) (.obj (s2.ix _ _ (by rw [← r.len]; simp)))⟩
    | _ => exact h2.elim
  · rw [if_neg hl] at h; exact h.elim
theorem se_make {c : Str} (Mk0 : Mk X.K C f) (F : FnOk X.prog X.w X.K X.mg X.base (L2.CX X.prog X.w) k f fd ps (spF X.mg X.K n M)) (hr : Room (k + 1) X.A) (hC : X.mg c = some (.ref C)) (hb : Binds X.K fd ps []) (tk : Takes X W)
    (ha : SA X W (e :: es) ma) (hg : Gl X c := by rfl) (hdb : (c == ("__debug__" : Str)) = false := by decide) (he : starEach (e :: es) X.env = (false, eval e X.env) :: starEach es X.env := by rfl) (hpl : (backTo pos (starEach es X.env)).any (·.1) = false := by rfl) :
    SE X W (.Call (.Name c p) (e :: es) [] pos) (mMake c M n ma) := ⟨⟨fun pins s σ H Q I ⟨ι, g, ρ, r, hρ, h⟩ => by
  refine wpAny_Call_Name_kw (ld_glob I hg hC ?_ hdb)
  refine PySem.W.callWith_K (h₀ := X.base) I.ok.mod.kin Mk0.kp (thn (ha.pa.run pos pins s σ H _ I ⟨ι, g, ρ, r, hρ, RunX.bind (Dn := fun ι H v d => DenAll X.K ι H v d) h⟩) fun us s1 ⟨vs, H1, I1, rv, ι1, g1, ds, s1', hds, h1⟩ => ⟨I1.kIn, ?_⟩) he hpl
  exact run_makeS (E := WE W) Mk0 F hr hb (fun σ => passAt tk σ) I1 rv (make_run s1'.rel hC hds h1)⟩⟩
theorem se_make0 {c : Str} (Mk0 : Mk X.K C f) (F : FnOk X.prog X.w X.K X.mg X.base (L2.CX X.prog X.w) k f fd ps (spF X.mg X.K n M)) (hr : Room (k + 1) X.A) (hC : X.mg c = some (.ref C)) (hb : Binds X.K fd ps []) (tk : Takes X W)
    (hg : Gl X c := by rfl) (hdb : (c == ("__debug__" : Str)) = false := by decide) : SE X W (.Call (.Name c p) [] [] pos) (mMake c M n mNil) := ⟨⟨fun pins s σ H Q I ⟨ι, g, ρ, r, hρ, h⟩ => by
  refine wpAny_Call_Name_kw (ld_glob I hg hC ?_ hdb)
  exact PySem.W.callWith_K0 I.kIn Mk0.kp (run_makeS (us := []) (vs := []) (E := WE W) Mk0 F hr hb (fun σ => passAt tk σ) I .nil (make_run (ds := []) r hC .nil h))⟩⟩
end
end L3

/-! L3I: what is walked; for; comprehensions. -/
namespace L3
open PySem PySem.Spec L2

/-- lists that must stay as they are while they are walked -/
abbrev Chk := List (Nat × List D)
def chkOk : Chk → GH → Bool
  | [], _ => true
  | (n, ds) :: r, g => decide (rdL g n = some ds) && chkOk r g
theorem chkOk_mem {g : GH} {n : Nat} {ds : List D} : ∀ {c : Chk}, chkOk c g = true → (n, ds) ∈ c → rdL g n = some ds
  | [], _, h => by cases h
  | (m, es) :: r, q, h => by
    unfold chkOk at q
    rw [Bool.and_eq_true] at q
    rcases List.mem_cons.mp h with e | h
    · cases e; exact of_decide_eq_true q.1
    · exact chkOk_mem q.2 h
/-- the items of a walk -/
abbrev IM := Rho → GH → R (List D × Chk)
/-- J walks the items, from the state (ι0, H0) on, while c holds -/
def JOk (mg : Str → Option Value) (K : PySem.W.Frag) (J : It) (ds : List D) (c : Chk) (ι0 : List Addr) (H0 : Hp) : Prop :=
  ∀ (i : Nat) ι g H, Step mg K ι0 H0 ι g H → chkOk c g = true → (∀ d, ds[i]? = some d → J.go i H ∧ ∀ x H', J.yld i H x H' → Step mg K ι H ι g H' ∧ Den K ι H' x d) ∧ (i = ds.length → J.stop i H)
section
variable (mg : Str → Option Value) (K : PySem.W.Frag)
def RunI (W : XK) (ι : List Addr) (H : Hp) (Q : It → Hp → Prop) : R (List D × Chk) → Prop
  | .ok (ds, c) g' => ∀ ι' H' J, Step mg K ι H ι' g' H' → JOk mg K J ds c ι' H' → Q J H'
  | .ex c fs g' => ∀ ι' H' cls dx, Step mg K ι H ι' g' H' → ExcR mg K ι' H' cls dx c fs → W cls dx H'
  | .bad => False
def tFI (W : WX) (m : IM) : TI := fun σ H Q => ∃ ι g ρ, Rel mg K ι g H ∧ EnvR K ι H σ ρ ∧ RunI mg K (fun c d H' => W c d σ H') ι H Q (m ρ g)
end
theorem PI.imp {X : Cx} {tg e : Expr} {t t' : TI} (h : PI X tg e t) (f : ∀ σ H Q, t' σ H Q → t σ H Q) : PI X tg e t' := ⟨fun pins s σ H R I q => h.run pins s σ H R I (f σ H R q)⟩
theorem PI.any {X : Cx} {tg e : Expr} {t : TI} (h : ∀ σ H Q, t σ H Q → ∃ t', PI X tg e t' ∧ t' σ H Q) : PI X tg e t := ⟨fun pins s σ H R I q => by
  obtain ⟨t', h1, h2⟩ := h σ H R q
  exact h1.run pins s σ H R I h2⟩
structure SI (X : Cx) (W : WX) (tg e : Expr) (m : IM) : Prop where
  pi : PI X tg e (tFI X.mg X.K W m)
section
variable {mg : Str → Option Value} {K : PySem.W.Frag}
theorem RunI.step {W : XK} {ι ι' : List Addr} {H H' : Hp} {g' : GH} {Q : It → Hp → Prop} {r : R (List D × Chk)} (h : RunI mg K W ι H Q r) (t : Step mg K ι H ι' g' H') : RunI mg K W ι' H' Q r := by
  cases r with
  | ok p g => exact fun ι2 H2 J s j => h ι2 H2 J (t.trans s) j
  | ex c fs g => exact fun ι2 H2 cls dx s e => h ι2 H2 cls dx (t.trans s) e
  | bad => exact h
theorem RunI.bind {α β : Type} {Dn : List Addr → Hp → β → α → Prop} {W : XK} {ι : List Addr} {H : Hp} {Q : It → Hp → Prop} {r : R α} {k : α → GH → R (List D × Chk)}
    (h : RunI mg K W ι H Q (r.bind k)) : RunX mg K Dn W ι H (fun v H1 => ∃ ι1 g1 d, Step mg K ι H ι1 g1 H1 ∧ Dn ι1 H1 v d ∧ RunI mg K W ι1 H1 Q (k d g1)) r := by
  cases r with
  | ok d g => exact fun ι2 H2 v s dn => ⟨ι2, g, d, s, dn, RunI.step h s⟩
  | ex c fs g => exact h
  | bad => exact h
/-- a list object -/
theorem jok_list {ι0 : List Addr} {H0 : Hp} {n : Nat} {a : Addr} {ds : List D} (hn : ι0[n]? = some a) : JOk mg K (Itl K a) ds [(n, ds)] ι0 H0 := fun i ι g H s hc => by
  have e := chkOk_mem hc (List.mem_singleton.mpr rfl)
  obtain ⟨xs, hx, hxs⟩ := s.rel.rdL e (s.ix _ _ hn)
  refine ⟨fun d hd => ?_, fun hl => ⟨xs, SqL.of hx, by rw [hxs.length]; exact Nat.le_of_eq hl.symm⟩⟩
  obtain ⟨v, hv, hvd⟩ := hxs.get hd
  refine ⟨⟨xs, v, SqL.of hx, hv⟩, fun x H' y => ?_⟩
  obtain ⟨e1, y⟩ := y
  subst e1
  have := y xs (SqL.of hx)
  rw [hv] at this; cases this
  exact ⟨Step.refl s.rel, hvd⟩
theorem jok_rol {ι0 : List Addr} {H0 : Hp} {a : Addr} {ds : List D} {xs : List V} (hp : SqP K H0 a xs) (hd : DenAll K ι0 H0 xs ds) : JOk mg K (Itl K a) ds [] ι0 H0 := fun i ι g H s hc => by
  have hx := SqP.sq (s.rol _ _ hp)
  have hxs := s.denAll hd
  refine ⟨fun d hd => ?_, fun hl => ⟨xs, hx, by rw [hxs.length]; exact Nat.le_of_eq hl.symm⟩⟩
  obtain ⟨v, hv, hvd⟩ := hxs.get hd
  refine ⟨⟨xs, v, hx, hv⟩, fun x H' y => ?_⟩
  obtain ⟨e1, y⟩ := y
  subst e1
  have := y xs hx
  rw [hv] at this; cases this
  exact ⟨Step.refl s.rel, hvd⟩
theorem jok_tup {ι0 : List Addr} {H0 : Hp} {a : Addr} {ds : List D} {xs : List V} (hp : TpT K H0 a xs) (hd : DenAll K ι0 H0 xs ds) : JOk mg K (Itt K a) ds [] ι0 H0 := fun i ι g H s hc => by
  have hx := (s.tup _ _ hp).1
  have hxs := s.denAll hd
  refine ⟨fun d hd => ?_, fun hl => ⟨xs, hx, by rw [hxs.length]; exact Nat.le_of_eq hl.symm⟩⟩
  obtain ⟨v, hv, hvd⟩ := hxs.get hd
  refine ⟨⟨xs, v, hx, hv⟩, fun x H' y => ?_⟩
  obtain ⟨e1, y⟩ := y
  subst e1
  have := y xs hx
  rw [hv] at this; cases this
  exact ⟨Step.refl s.rel, hvd⟩
def rngD (lo : Int) (n : Nat) : List D := (List.range n).map fun i => .int (lo + (i : Nat))
theorem jok_rng {ι0 : List Addr} {H0 : Hp} {lo : Int} {n : Nat} : JOk mg K (Itr lo n) (rngD lo n) [] ι0 H0 := fun i ι g H s hc => by
  refine ⟨fun d hd => ?_, fun hl => ?_⟩
  · unfold rngD at hd
    rw [List.getElem?_map] at hd
    have hi : i < n := by
      by_cases h : i < n
      · exact h
      · rw [List.getElem?_eq_none (by simpa using h)] at hd; cases hd
    rw [List.getElem?_eq_getElem (by simpa using hi)] at hd
    simp at hd
    subst hd
    refine ⟨hi, fun x H' y => ?_⟩
    obtain ⟨e1, e2⟩ := y
    subst e1 e2
    exact ⟨Step.refl s.rel, .int _⟩
  · unfold rngD at hl
    exact (show n ≤ i by simp at hl; omega)
end
def mItS (m : EM) : IM := fun ρ g => (m ρ g).bind fun d g1 => match d with
  | .tup ds => .ok (ds, []) g1
  | .rol ds => .ok (ds, []) g1
  | .obj n => match rdL g1 n with
    | some ds => .ok (ds, [(n, ds)]) g1
    | none => .bad
  | _ => .bad
/-- range(b), range(a, b) -/
def mRng1 (m : EM) : IM := fun ρ g => (m ρ g).bind fun d g1 => match d with
  | .int j => if -(2 ^ 62) ≤ j ∧ j < 2 ^ 62 then .ok (rngD 0 j.toNat, []) g1 else .bad
  | _ => .bad
def mRng2 (m m' : EM) : IM := fun ρ g => (m ρ g).bind fun d g1 => (m' ρ g1).bind fun e g2 => match d, e with
  | .int i, .int j => if -(2 ^ 62) ≤ i ∧ i < 2 ^ 62 ∧ -(2 ^ 62) ≤ j ∧ j < 2 ^ 62 then .ok (rngD i (j - i).toNat, []) g2 else .bad
  | _, _ => .bad
section
variable {X : Cx} {W : WX} {tg e e2 : Expr} {m m2 : EM} {p pos : Pos}
theorem tF_get {mg : Str → Option Value} {K : PySem.W.Frag} {σ : L2.St} {H : Hp} {Q : VK} (h : tF mg K W m σ H Q) : tF mg K W m σ H Q := h
theorem si_seq (h : SE X W e m) : SI X W tg e (mItS m) := ⟨PI.any fun σ H Q ⟨ι, g, ρ, r, hρ, q⟩ => by
  cases em : m ρ g with
  | ok d g1 =>
    have q' : RunI X.mg X.K _ ι H Q (mItS m ρ g) := q
    unfold mItS at q'
    rw [em] at q'
    simp only [R.bind_ok] at q'
    cases d with
    | tup ds =>
      refine ⟨_, pi_tup h.pe, ι, g, ρ, r, hρ, ?_⟩
      rw [em]
      intro ι1 H1 v s hv
      cases hv with
      | @tup a xs ds' ha hxs => exact ⟨a, rfl, ⟨xs, ha.1⟩, q' ι1 H1 _ s (jok_tup ha hxs)⟩
    | rol ds =>
      refine ⟨_, pi_list h.pe, ι, g, ρ, r, hρ, ?_⟩
      rw [em]
      intro ι1 H1 v s hv
      cases hv with
      | @rol a xs ds' ha hxs => exact ⟨a, rfl, ⟨xs, SqP.sq ha⟩, q' ι1 H1 _ s (jok_rol ha hxs)⟩
    | obj n =>
      refine ⟨_, pi_list h.pe, ι, g, ρ, r, hρ, ?_⟩
      rw [em]
      intro ι1 H1 v s hv
      cases hv with
      | @obj a n' hn =>
        cases e1 : rdL g1 n with
        | none => simp only [e1] at q'; exact q'.elim
        | some ds =>
          simp only [e1] at q'
          obtain ⟨xs, hx, hxs⟩ := s.rel.rdL e1 hn
          exact ⟨a, rfl, ⟨xs, SqL.of hx⟩, q' ι1 H1 _ s (jok_list hn)⟩
    | _ => exact q'.elim
  | ex c fs g1 =>
    refine ⟨_, pi_tup h.pe, ι, g, ρ, r, hρ, ?_⟩
    have q' : RunI X.mg X.K _ ι H Q (mItS m ρ g) := q
    unfold mItS at q'
    rw [em] at q' ⊢
    exact q'
  | bad =>
    have q' : RunI X.mg X.K _ ι H Q (mItS m ρ g) := q
    unfold mItS at q'
    rw [em] at q'
    exact q'.elim⟩
theorem si_rng1 (hm : X.mg "range" = none) (ha : SE X W e m) (hg : Gl X "range" := by rfl) (hs : starEach [e] X.env = [(false, eval e X.env)] := by rfl) : SI X W tg (.Call (.Name "range" p) [e] [] pos) (mRng1 m) :=
  ⟨PI.imp (pi_range1 hg hm (pa_cons ha.pe pa_nil hs) hs) fun σ H Q ⟨ι, g, ρ, r, hρ, q⟩ => by
    refine ⟨ι, g, ρ, r, hρ, RunX.mono (RunI.bind (Dn := fun ι H v d => Den X.K ι H v d) q) fun v H1 ⟨ι1, g1, d, s1, hd, h1⟩ => ?_⟩
    cases hd with
    | int j =>
      have h1 : RunI X.mg X.K _ ι1 H1 Q (if -(2 ^ 62) ≤ j ∧ j < 2 ^ 62 then .ok (rngD 0 j.toNat, []) g1 else .bad) := h1
      by_cases hj : -(2 ^ 62) ≤ j ∧ j < 2 ^ 62
      · rw [if_pos hj] at h1
        exact ⟨j, rfl, hj.1, hj.2, h1 ι1 H1 _ (Step.refl s1.rel) jok_rng⟩
      · rw [if_neg hj] at h1; exact h1.elim
    | _ => exact h1.elim⟩
theorem si_rng2 (hm : X.mg "range" = none) (ha : SE X W e m) (hb : SE X W e2 m2) (hg : Gl X "range" := by rfl) (hs : starEach [e, e2] X.env = [(false, eval e X.env), (false, eval e2 X.env)] := by rfl) (hs2 : starEach [e2] X.env = [(false, eval e2 X.env)] := by rfl) : SI X W tg (.Call (.Name "range" p) [e, e2] [] pos) (mRng2 m m2) :=
  ⟨PI.imp (pi_range2 hg hm (pa_cons ha.pe (pa_cons hb.pe pa_nil hs2) (by rw [hs, hs2])) hs hs2) fun σ H Q ⟨ι, g, ρ, r, hρ, q⟩ => by
    refine ⟨ι, g, ρ, r, hρ, RunX.mono (RunI.bind (Dn := fun ι H v d => Den X.K ι H v d) q) fun v H1 ⟨ι1, g1, d, s1, hd, h1⟩ => ?_⟩
    refine ⟨ι1, g1, ρ, s1.rel, hρ.step s1, RunX.mono (RunI.bind (Dn := fun ι H v d => Den X.K ι H v d) h1) fun u H2 ⟨ι2, g2, d2, s2, hd2, h2⟩ => ?_⟩
    cases hd with
    | int i =>
      cases hd2 with
      | int j =>
        have h2 : RunI X.mg X.K _ ι2 H2 Q (if -(2 ^ 62) ≤ i ∧ i < 2 ^ 62 ∧ -(2 ^ 62) ≤ j ∧ j < 2 ^ 62 then .ok (rngD i (j - i).toNat, []) g2 else .bad) := h2
        by_cases hj : -(2 ^ 62) ≤ i ∧ i < 2 ^ 62 ∧ -(2 ^ 62) ≤ j ∧ j < 2 ^ 62
        · rw [if_pos hj] at h2
          exact ⟨i, j, rfl, hj, h2 ι2 H2 _ (Step.refl s2.rel) jok_rng⟩
        · rw [if_neg hj] at h2; exact h2.elim
      | _ => exact h2.elim
    | _ => exact h2.elim⟩
end

/-! ### for -/
def forN (c : Chk) (t : TM) (b : SM) : List D → SM
  | [] => fun ρ g => .ok (.nx ρ) g
  | d :: ds => fun ρ g => match t d ρ g with
    | none => .bad
    | some (ρ1, g1) => match b ρ1 g1 with
      | .ok (.nx ρ2) g2 => if chkOk c g2 = true then forN c t b ds ρ2 g2 else .bad
      | .ok (.ct ρ2) g2 => if chkOk c g2 = true then forN c t b ds ρ2 g2 else .bad
      | .ok (.bk ρ2) g2 => .ok (.nx ρ2) g2
      | r => r
def sFor (im : IM) (t : TM) (b : SM) : SM := fun ρ g => (im ρ g).st ρ fun p g1 => if chkOk p.2 g1 = true then forN p.2 t b p.1 ρ g1 else .bad
section
variable {X : Cx} {W : WX} {tg iter : Expr} {body : List Stmt} {im : IM} {t : TM} {b : SM} {pos : Pos}
theorem ss_for (hp : PassesOwn (model X.prog X.w) X.A X.env X.xe) (hc : X.calm = true) (hi : SI X W tg iter im) (hg : SG X tg t) (hb : SSs X W body b)
    (hs : ∀ x, foldedSetIterable iter X.env x = pure x := by intro _; rfl) : SS X W (.For tg iter body [] pos) (sFor im t b) := ⟨PS.imp (ps_for hp hc hi.pi hg.pg hb.ps hs) fun D σ H ⟨ι, g, ρ, r, hρ, h⟩ => by
  refine ⟨ι, g, ρ, r, hρ, ?_⟩
  unfold sFor at h
  cases ei : im ρ g with
  | bad => rw [ei] at h; exact h
  | ex c fs g1 => rw [ei] at h; exact fun ι1 H1 cls dx s x => h ι1 H1 σ cls dx s (hρ.step s) x
  | ok p g1 =>
    obtain ⟨ds, c⟩ := p
    rw [ei] at h
    simp only [R.st_ok] at h
    intro ι0 H0 J s0 jok
    have h0 := RunS.step h s0
    by_cases hck : chkOk c g1 = true
    · rw [if_pos hck] at h0
      refine ⟨fun i n σ H => n = ds.length - i ∧ i ≤ ds.length ∧ ∃ ι g ρ, Step X.mg X.K ι0 H0 ι g H ∧ chkOk c g = true ∧ EnvR X.K ι H σ ρ ∧ RunS X.mg X.K W D ι H (forN c t b (ds.drop i) ρ g),
        ⟨ds.length, by simp, Nat.zero_le _, ι0, g1, ρ, Step.refl s0.rel, hck, hρ.step s0, by rw [List.drop_zero]; exact h0⟩, ?_⟩
      rintro i n σ H ⟨rfl, hi, ι, g, ρ, s, hc2, hρ2, h2⟩
      obtain ⟨j1, j2⟩ := jok i ι g H s hc2
      by_cases hlt : i < ds.length
      · have hd : ds[i]? = some ds[i] := List.getElem?_eq_getElem hlt
        have hdrop : ds.drop i = ds[i] :: ds.drop (i + 1) := List.drop_eq_getElem_cons hlt
        rw [hdrop] at h2
        obtain ⟨go, yl⟩ := j1 _ hd
        refine .inr ⟨go, fun σ' H' => i + 1 ≤ ds.length ∧ ∃ ι g ρ, Step X.mg X.K ι0 H0 ι g H' ∧ chkOk c g = true ∧ EnvR X.K ι H' σ' ρ ∧ RunS X.mg X.K W D ι H' (forN c t b (ds.drop (i + 1)) ρ g),
          fun σ' H' q => ⟨ds.length - (i + 1), by omega, rfl, q.1, q.2⟩, fun x H' y => ?_⟩
        obtain ⟨s1, hx⟩ := yl x H' y
        have h3 := RunS.step h2 s1
        unfold forN at h3
        refine ⟨ι, g, ρ, ds[i], s1.rel, hρ2.step s1, hx, ?_⟩
        cases et : t ds[i] ρ g with
        | none => simp only [et] at h3; exact h3
        | some q =>
          obtain ⟨ρ1, g2⟩ := q
          simp only [et] at h3
          intro ι2 H2 σ2 s2 e2
          have h4 := RunS.step h3 s2
          refine ⟨ι2, g2, ρ1, s2.rel, e2, ?_⟩
          cases eb : b ρ1 g2 with
          | ok f g3 =>
            simp only [eb] at h4
            cases f with
            | nx ρ2 =>
              intro ι3 H3 σ3 s3 e3
              have h5 := RunS.step h4 s3
              simp only at h5
              by_cases hk : chkOk c g3 = true
              · rw [if_pos hk] at h5
                exact ⟨hlt, ι3, g3, ρ2, ((s.trans s1).trans s2).trans s3, hk, e3, h5⟩
              · rw [if_neg hk] at h5; exact h5.elim
            | ct ρ2 =>
              intro ι3 H3 σ3 s3 e3
              have h5 := RunS.step h4 s3
              simp only at h5
              by_cases hk : chkOk c g3 = true
              · rw [if_pos hk] at h5
                exact ⟨hlt, ι3, g3, ρ2, ((s.trans s1).trans s2).trans s3, hk, e3, h5⟩
              · rw [if_neg hk] at h5; exact h5.elim
            | bk ρ2 => exact h4
            | rt d => exact h4
          | ex c' fs ρ2 g3 => simp only [eb] at h4; exact h4
          | bad => simp only [eb] at h4; exact h4
      · have hi' : i = ds.length := by omega
        subst hi'
        rw [List.drop_length] at h2
        exact .inl ⟨j2 rfl, h2 ι H σ (Step.refl s.rel) hρ2⟩
    · rw [if_neg hck] at h0; exact h0.elim⟩
end

/-! ### list comprehensions -/
/-- a comprehension's target: a name, or names -/
inductive Tg where
  | nm (i : Nat)
  | tp (is : List Nat)
def gNms : List Nat → TMs
  | [] => gNl
  | i :: is => gCn (gNm i) (gNms is)
def tgM : Tg → TM
  | .nm i => gNm i
  | .tp is => gTp is.length (gNms is)
def hNms : List Nat → TGs
  | [] => gNil
  | i :: is => gCons (gName i) (hNms is)
def tgH (K : PySem.W.Frag) : Tg → TG
  | .nm i => gName i
  | .tp is => gTup K is.length (hNms is)
def tgS : Tg → List Nat
  | .nm i => [i]
  | .tp is => is
theorem wipe_set (σ : L2.St) (i : Nat) (v : Option V) : ∀ vs : List Nat, i ∈ vs → L2.wipe (σ.set i v) vs = L2.wipe σ vs
  | [], h => by cases h
  | j :: vs, h => by
    unfold L2.wipe
    by_cases hi : i ∈ vs
    · rw [wipe_set σ i v vs hi]
    · have hj : i = j := (List.mem_cons.mp h).resolve_right hi
      subst hj
      have : ∀ us : List Nat, i ∉ us → L2.wipe (σ.set i v) us = (L2.wipe σ us).set i v := by
        intro us
        induction us with
        | nil => intro _; rfl
        | cons u us ih =>
          intro hu
          have h1 : i ≠ u := fun z => hu (z ▸ List.mem_cons_self)
          have h2 : i ∉ us := fun z => hu (List.mem_cons_of_mem _ z)
          show (L2.wipe (σ.set i v) us).set u none = ((L2.wipe σ us).set u none).set i v
          rw [ih h2, List.set_comm _ _ h1]
      rw [this vs hi, List.set_set]
theorem wipe_none (σ : L2.St) : ∀ (vs us : List Nat), (∀ i ∈ us, i ∈ vs) → L2.wipe (L2.wipe σ us) vs = L2.wipe σ vs
  | vs, [], _ => rfl
  | vs, u :: us, h => by
    show L2.wipe ((L2.wipe σ us).set u none) vs = L2.wipe σ vs
    rw [wipe_set _ u none vs (h u List.mem_cons_self)]
    exact wipe_none σ vs us fun i hi => h i (List.mem_cons_of_mem _ hi)
/-- a list beside the objects is changed -/
theorem Rel.beside {mg : Str → Option Value} {K : PySem.W.Frag} {ι : List Addr} {g : GH} {H : Hp} {L : Addr} {xs : List V} {u : HO} (r : Rel mg K ι g H) (hL : H L = some (.lst xs)) (hn : L ∉ ι) :
    (∀ a ys, TpT K H a ys → TpT K (upd H L u) a ys) ∧ (∀ a ys, SqP K H a ys → SqP K (upd H L u) a ys) ∧ Rel mg K ι g (upd H L u) := by
  have frm : ∀ b o, H b = some o → b ≠ L → upd H L u b = some o := fun b o e1 e2 => by rw [upd_ne e2]; exact e1
  have hT : ∀ a ys, TpT K H a ys → TpT K (upd H L u) a ys := fun a ys q => by
    refine ⟨?_, fun ne => frm _ _ (q.2 ne) fun e => by
      have z := q.2 ne
      rw [e, hL] at z; cases z⟩
    rcases q.1 with (q' | ⟨o, q'⟩) | q'
    · exact .inl (.inl (frm _ _ q' fun e => by rw [e, hL] at q'; cases q'))
    · exact .inl (.inr ⟨o, frm _ _ q' fun e => by rw [e, hL] at q'; cases q'⟩)
    · exact .inr q'
  have hP : ∀ a ys, SqP K H a ys → SqP K (upd H L u) a ys := fun a ys q => by
    rcases q with ⟨o, q', ai⟩ | q'
    · exact .inl ⟨o, frm _ _ q' (fun e => by rw [e, hL] at q'; cases q'), ai⟩
    · exact .inr q'
  refine ⟨hT, hP, r.len, r.nd, fun n o a h1 h2 => (r.at_ n o a h1 h2).mono (fun _ _ h => h) hT hP fun w hw => frm _ _ hw fun e => hn ?_⟩
  rw [← e]
  exact List.mem_of_getElem? h2
/-- a list that was made beside the objects becomes one -/
theorem Step.adopt {mg : Str → Option Value} {K : PySem.W.Frag} {ι0 ι : List Addr} {g : GH} {H0 H : Hp} {L : Addr} {xs : List V} {acc : List D} (s : Step mg K ι0 H0 ι g H) (hL : H L = some (.lst xs)) (hn : L ∉ ι) (h0 : H0 L = none) (hd : DenAll K ι H xs acc) :
    Step mg K ι0 H0 (ι ++ [L]) (g ++ [.lst acc]) H := by
  have hix : ∀ (n : Nat) a, ι[n]? = some a → (ι ++ [L])[n]? = some a := fun n a e => by
    rw [List.getElem?_append_left (List.getElem?_eq_some_iff.mp e).1]; exact e
  obtain ⟨κ, hκ⟩ := s.pre
  refine ⟨⟨κ ++ [L], by rw [hκ, List.append_assoc]⟩, ⟨by simp [s.rel.len], ?_, fun n o a h e => ?_⟩, s.frm, fun b hb k => ?_, s.tup, s.rol, s.frz⟩
  · exact List.nodup_append.mpr ⟨s.rel.nd, by simp, fun a ha b hb => by simp at hb; subst hb; exact fun z => hn (z ▸ ha)⟩
  · by_cases hlt : n < ι.length
    · rw [List.getElem?_append_left hlt] at e
      rw [List.getElem?_append_left (by rw [← s.rel.len]; exact hlt)] at h
      exact (s.rel.at_ n o a h e).mono hix (fun _ _ h => h) (fun _ _ h => h) fun _ h => h
    · have hn' : n = ι.length := by
        have := (List.getElem?_eq_some_iff.mp e).1
        simp at this; omega
      subst hn'
      rw [List.getElem?_append_right (Nat.le_refl _)] at e
      rw [s.rel.len, List.getElem?_append_right (Nat.le_refl _)] at h
      simp at e h
      subst e h
      exact ⟨xs, hL, DenAll.mono hix (fun _ _ h => h) (fun _ _ h => h) _ _ hd⟩
  · rcases List.mem_append.mp hb with hb | hb
    · exact s.new b hb k
    · simp at hb; subst hb; exact h0
theorem hNms_run {mg : Str → Option Value} {K : PySem.W.Frag} {ι : List Addr} {g : GH} {H : Hp} {own : List Nat} {σ0 : L2.St} {Q : L2.St → Hp → Prop} (r : Rel mg K ι g H) :
    ∀ (is : List Nat) (σ : L2.St) (ρ : Rho) (ds : List D) (xs : List V), (∀ i ∈ is, i ∈ own) → EnvR K ι H σ ρ → DenAll K ι H xs ds → L2.wipe σ own = L2.wipe σ0 own → ∀ ρ' g', gNms is ds ρ g = some (ρ', g') →
      (g' = g → ∀ σ', EnvR K ι H σ' ρ' → L2.wipe σ' own = L2.wipe σ0 own → Q σ' H) → hNms is xs σ H Q
  | [], σ, ρ, ds, xs, _, hρ, hd, hw, ρ', g', e, k => by
    cases hd with
    | nil =>
      simp only [gNms, gNl, Option.some.injEq, Prod.mk.injEq] at e
      obtain ⟨rfl, rfl⟩ := e
      exact ⟨rfl, k rfl σ hρ hw⟩
    | cons _ _ => simp [gNms, gNl] at e
  | i :: is, σ, ρ, ds, xs, hm, hρ, hd, hw, ρ', g', e, k => by
    cases hd with
    | nil => simp [gNms, gCn] at e
    | @cons v vs d ds hv hds =>
      refine ⟨v, vs, rfl, ?_⟩
      have e' : gNms is ds (ρ.set i (some d)) g = some (ρ', g') := by simpa [gNms, gCn, gNm] using e
      exact hNms_run r is _ _ ds vs (fun j hj => hm j (List.mem_cons_of_mem _ hj)) (hρ.set i hv) hds (by rw [wipe_set σ i _ own (hm i List.mem_cons_self)]; exact hw) ρ' g' e' k
theorem tg_run {mg : Str → Option Value} {K : PySem.W.Frag} {ι : List Addr} {g : GH} {H : Hp} {own : List Nat} {σ : L2.St} {ρ : Rho} {d : D} {x : V} {Q : L2.St → Hp → Prop} {tg : Tg} (r : Rel mg K ι g H) (hm : ∀ i ∈ tgS tg, i ∈ own) (hρ : EnvR K ι H σ ρ) (hd : Den K ι H x d)
    {ρ' : Rho} {g' : GH} (e : tgM tg d ρ g = some (ρ', g')) (k : g' = g → ∀ σ', EnvR K ι H σ' ρ' → L2.wipe σ' own = L2.wipe σ own → Q σ' H) : tgH K tg x σ H Q := by
  cases tg with
  | nm i =>
    simp only [tgM, gNm, Option.some.injEq, Prod.mk.injEq] at e
    obtain ⟨rfl, rfl⟩ := e
    exact k rfl _ (hρ.set i hd) (wipe_set σ i _ own (hm i (by simp [tgS])))
  | tp is =>
    cases hd with
    | @tup a xs ds ha hxs =>
      have e : (if ds.length = is.length then gNms is ds ρ g else none) = some (ρ', g') := e
      by_cases hl : ds.length = is.length
      · rw [if_pos hl] at e
        exact ⟨a, xs, rfl, ha.1, by rw [hxs.length]; exact hl, hNms_run r is σ ρ ds xs hm hρ hxs rfl ρ' g' e k⟩
      · rw [if_neg hl] at e; cases e
    | _ => cases e
/-- the turns -/
def lcN (c : Chk) (t : Tg) (tt e : EM) (ρ : Rho) : List D → List D → GH → Option (List D × GH)
  | [], acc, g => some (acc, g)
  | d :: ds, acc, g => match tgM t d ρ g with
    | none => none
    | some (ρ1, g1) => match tt ρ1 g1 with
      | .ok (.bl true) g2 => match e ρ1 g2 with
        | .ok v g3 => if chkOk c g3 = true ∧ acc.length < sizeLine then lcN c t tt e ρ ds (acc ++ [v]) g3 else none
        | _ => none
      | .ok (.bl false) g2 => if chkOk c g2 = true then lcN c t tt e ρ ds acc g2 else none
      | _ => none
def mLc (im : IM) (t : Tg) (tt e : EM) (own : List Nat) : EM := fun ρ g => (im ρ g).bind fun p g1 => if chkOk p.2 g1 = true then match lcN p.2 t tt e (wipeD ρ own) p.1 [] g1 with
  | some (ds, g2) => .ok (.obj g2.length) (g2 ++ [.lst ds])
  | none => .bad
  else .bad
def mYes : EM := fun _ g => .ok (.bl true) g
abbrev W0 : WX := fun _ _ _ _ => False
/-- the tests of a comprehension -/
structure STs (X : Cx) (ifs : List Expr) (m : EM) : Prop where
  pts : PTs X ifs (tFT X.mg X.K W0 m)
theorem sts_nil {X : Cx} : STs X [] mYes := ⟨⟨fun pins s σ H Q I ⟨ι, g, ρ, r, hρ, h⟩ => pts_nil.run pins s σ H Q I (h ι H true (Step.refl r) rfl)⟩⟩
theorem sts_one {X : Cx} {c : Expr} {m : EM} (h : ST X W0 c m) : STs X [c] m := ⟨pts_one h.pt⟩
section
variable {X : Cx} {W : WX} {elt tg iter : Expr} {ifs : List Expr} {scope : Scope} {own : List (Str × Nat)} {pos : Pos} {im : IM} {t : Tg} {mt me : EM}
theorem tF_lc {mg : Str → Option Value} {K : PySem.W.Frag} {vs : List Nat} (hm : ∀ i ∈ tgS t, i ∈ vs) : ∀ σ H Q, tF mg K W (mLc im t mt me vs) σ H Q → tLc (tFI mg K W im) (tgH K t) (tFT mg K W0 mt) (tF mg K W0 me) vs σ H Q := fun σ Hs Q ⟨ιs, g, ρ, r, hρ, h⟩ => by
  refine ⟨ιs, g, ρ, r, hρ, ?_⟩
  unfold mLc at h
  cases ei : im ρ g with
  | bad => rw [ei] at h; exact h
  | ex c fs g1 => rw [ei] at h; exact h
  | ok p g1 =>
    obtain ⟨ds, c⟩ := p
    rw [ei] at h
    simp only [R.bind_ok] at h
    intro ι0 H0 J s0 jok L hL
    by_cases hck : chkOk c g1 = true
    · rw [if_pos hck] at h
      cases el : lcN c t mt me (wipeD ρ vs) ds [] g1 with
      | none => simp only [el] at h; exact h.elim
      | some q =>
        obtain ⟨es, gE⟩ := q
        simp only [el] at h
        refine ⟨fun i n H => n = ds.length - i ∧ i ≤ ds.length ∧ ∃ ι g acc xs, Step mg K ι0 H0 ι g H ∧ chkOk c g = true ∧ H L = some (.lst xs) ∧ L ∉ ι ∧ DenAll K ι H xs acc ∧ lcN c t mt me (wipeD ρ vs) (ds.drop i) acc g = some (es, gE),
          ⟨ds.length, by simp, Nat.zero_le _, ι0, g1, [], [], Step.side s0.rel hL, hck, upd_same, fun m => ?_, .nil, by rw [List.drop_zero]; exact el⟩, ?_⟩
        · obtain ⟨u, hu, _⟩ := s0.rel.there m
          rw [hL] at hu; cases hu
        · rintro i n H ⟨rfl, hi, ι, g, acc, xs, s, hc2, hH, hLn, hacc, h2⟩
          obtain ⟨j1, j2⟩ := jok i ι g H s hc2
          by_cases hlt : i < ds.length
          · have hd : ds[i]? = some ds[i] := List.getElem?_eq_getElem hlt
            have hdrop : ds.drop i = ds[i] :: ds.drop (i + 1) := List.drop_eq_getElem_cons hlt
            rw [hdrop] at h2
            obtain ⟨go, yl⟩ := j1 _ hd
            refine .inr ⟨go, fun H' => i + 1 ≤ ds.length ∧ ∃ ι g acc xs, Step mg K ι0 H0 ι g H' ∧ chkOk c g = true ∧ H' L = some (.lst xs) ∧ L ∉ ι ∧ DenAll K ι H' xs acc ∧ lcN c t mt me (wipeD ρ vs) (ds.drop (i + 1)) acc g = some (es, gE),
              fun H' q => ⟨ds.length - (i + 1), by omega, rfl, q.1, q.2⟩, fun x H' y => ?_⟩
            obtain ⟨s1, hx⟩ := yl x H' y
            -- the list at L stands through any step from here
            have keep : ∀ {ι2 g2 H2}, Step mg K ι H ι2 g2 H2 → H2 L = some (.lst xs) ∧ L ∉ ι2 := fun {ι2 g2 H2} z => by
              refine ⟨z.frm _ _ hH hLn, fun m => ?_⟩
              have := z.new _ m hLn
              rw [hH] at this; cases this
            unfold lcN at h2
            cases et : tgM t ds[i] (wipeD ρ vs) g with
            | none => simp only [et] at h2; cases h2
            | some q =>
              obtain ⟨ρ1, g2⟩ := q
              simp only [et] at h2
              have ρw : EnvR K ι H' (L2.wipe σ vs) (wipeD ρ vs) := ((hρ.step s0).step (s.trans s1)).wipe vs
              refine tg_run s1.rel hm ρw hx et fun eg σ2 e2 hw => ⟨by rw [hw]; exact wipe_none σ vs vs fun _ h => h, ?_⟩
              subst eg
              refine ⟨ι, g2, ρ1, s1.rel, e2, ?_⟩
              unfold asB
              cases em : mt ρ1 g2 with
              | bad => simp only [em] at h2; cases h2
              | ex _ _ _ => simp only [em] at h2; cases h2
              | ok tv g3 =>
                simp only [em] at h2
                cases tv with
                | bl bb =>
                  intro ι3 H3 bv s3 hb
                  cases hb
                  cases bb with
                  | false =>
                    rw [if_neg (by decide)]
                    simp only at h2
                    by_cases hk : chkOk c g3 = true
                    · rw [if_pos hk] at h2
                      have z := keep (s1.trans s3)
                      exact ⟨hlt, ι3, g3, acc, xs, (s.trans s1).trans s3, hk, z.1, z.2, (s1.trans s3).denAll hacc, h2⟩
                    · rw [if_neg hk] at h2; cases h2
                  | true =>
                    rw [if_pos rfl]
                    simp only at h2
                    refine ⟨ι3, g3, ρ1, s3.rel, e2.step s3, ?_⟩
                    cases ee : me ρ1 g3 with
                    | bad => simp only [ee] at h2; cases h2
                    | ex _ _ _ => simp only [ee] at h2; cases h2
                    | ok v g4 =>
                      simp only [ee] at h2
                      intro ι4 H4 u s4 hu
                      by_cases hk : chkOk c g4 = true ∧ acc.length < sizeLine
                      · rw [if_pos hk] at h2
                        have z := keep ((s1.trans s3).trans s4)
                        have hacc4 := ((s1.trans s3).trans s4).denAll hacc
                        refine ⟨xs, z.1, by rw [hacc.length]; exact hk.2, hlt, ι4, g4, acc ++ [v], xs ++ [u], ?_, hk.1, upd_same, z.2, ?_, h2⟩
                        · have base := (((s.trans s1).trans s3).trans s4)
                          obtain ⟨hT, hP, rl⟩ := s4.rel.beside (u := .lst (xs ++ [u])) z.1 z.2
                          refine ⟨base.pre, rl, fun b o h1 h2 => ?_, base.new, fun a ys q => hT _ _ (base.tup _ _ q), fun a ys q => hP _ _ (base.rol _ _ q), fun b o x q => by
                            have q' := base.frz b o x q
                            rw [upd_ne (fun e => by rw [e, z.1] at q'; cases q')]
                            exact q'⟩
                          rw [upd_ne fun e => by rw [e, hL] at h1; cases h1]
                          exact base.frm b o h1 h2
                        · obtain ⟨hT, hP, rl⟩ := s4.rel.beside (u := .lst (xs ++ [u])) z.1 z.2
                          exact DenAll.mono (fun _ _ h => h) hT hP _ _ (hacc4.append (.cons hu .nil))
                      · rw [if_neg hk] at h2; cases h2
                | _ => simp only at h2; cases h2
          · have hi' : i = ds.length := by omega
            subst hi'
            rw [List.drop_length] at h2
            simp only [lcN, Option.some.injEq, Prod.mk.injEq] at h2
            obtain ⟨rfl, rfl⟩ := h2
            refine .inl ⟨j2 rfl, ?_⟩
            have hL0 : Hs L = none := by
              cases e : Hs L with
              | none => rfl
              | some o =>
                by_cases hm : L ∈ ιs
                · obtain ⟨κ, hκ⟩ := s0.pre
                  obtain ⟨u, hu, _⟩ := s0.rel.there (a := L) (by rw [hκ]; exact List.mem_append_left _ hm)
                  rw [hL] at hu; cases hu
                · rw [s0.frm _ _ e hm] at hL; cases hL
            exact h _ _ _ ((s0.trans s).adopt hH hLn hL0 hacc) (.obj (by rw [← s.rel.len]; simp))
    · rw [if_neg hck] at h; exact h.elim
end
end L3

/-! L3J: rules beside HandS: a starred name in a target, enumerate and zip over lists and tuples, the pairs of a dict with tuple keys. -/
namespace L3
open PySem PySem.Spec L2

/-! ### a, *b = a tuple -/
section
variable {prog : Program} {w : World} {A : Around} {E : Value → Shared → Prop} {s : Shared}
theorem starT {l : Addr} {its : Array Value} {n i : Nat} {Q : List Value → Shared → Prop} (ht : PyProof.Rows.IsTup s.heap l its) (hh : A.handled = none) (hi : i < n) (hn : n ≤ its.size + 1) (hz : its.size ≤ 16384)
    (h : ∀ (h' : Heap) (tk : Nat), (∀ b o, s.heap.get? b = some o → h'.get? b = some o) →
      Q (its.toList.take i ++ [.ref h'.objs.size] ++ (its.toList.drop i).drop (its.size + 1 - n)) { s with heap := h'.push { cls := .type "list", data := .seq ((its.toList.drop i).take (its.size + 1 - n)).toArray }, toks := tk }) :
    wpAny (model prog w) A (unpackItems (.ref l) n (some i)) Q E s := by
  have ne : l ≠ s.heap.objs.size := by
    obtain ⟨o, q, _⟩ := ht
    exact Nat.ne_of_lt (Heap.lt_size q)
  unfold unpackItems
  refine wpAny_bind ?_
  unfold notIterableAtAll
  refine wpAny_bind (wpAny_specialOf ht.typeIs PyProof.Rows.slot_tuple_iter.lookup (wpAny_pure ?_))
  simp only [Bool.false_eq_true, if_false]
  refine wpAny_bind (wpAny_holding (PyProof.Rows.iter_tuple ht (wpAny_bind (wpAny_holding ?_))))
  refine PyProof.Rows.draw_tuple ne i 0 _ _ ⟨_, Heap.get?_push_size _ rfl, rfl, rfl⟩ (ht.push _) (by omega) fun g1 it1 sb => ?_
  have t1 : PyProof.Rows.IsTup g1 l its := (ht.push _).extBut sb.extBut ne
  rw [Nat.zero_add] at it1
  have l1 : s.heap.objs.size < g1.objs.size := by obtain ⟨o, q, _⟩ := id it1; exact Heap.lt_size q
  have l2 : l < g1.objs.size := by obtain ⟨o, q, _⟩ := id t1; exact Heap.lt_size q
  rw [List.drop_zero]
  have e1 : (its.toList.take i).length = i := by rw [List.length_take, Array.length_toList]; omega
  rw [if_neg (show ¬ ((its.toList.take i).length < i) by omega)]
  refine wpAny_bind (wpAny_holding ?_)
  refine PySem.W.kun_collect (s := { s with heap := g1 }) (T := "tuple_iterator") (.inr (.inr (.inr rfl))) (Walks.tuple (A := A.in1) hh s.heap.objs.size l ne its) (fun _ _ st => st.1.typeIs) (k := i) (by omega) ⟨it1, t1⟩ l1 l2 (fun g2 tk hk => ?_) (by rw [sizeLine_eq]; omega)
  have e2 : (its.toList.drop i).length = its.size - i := by rw [List.length_drop, Array.length_toList]
  have e3 : (its.toList.drop i).length - (n - 1 - i) = its.size + 1 - n := by rw [e2]; omega
  show wpAny _ _ (if (its.toList.drop i).length < n - 1 - i then _ else _) _ _ _
  rw [if_neg (by rw [e2]; omega)]
  show wpAny _ _ (newList ((its.toList.drop i).take ((its.toList.drop i).length - (n - 1 - i))) >>= fun d => pure (its.toList.take i ++ [d] ++ (its.toList.drop i).drop ((its.toList.drop i).length - (n - 1 - i)))) _ _ _
  rw [e3]
  refine wpAny_bind (wpAny_newList (wpAny_pure ?_) (by rw [List.length_take, e2, sizeLine_eq]; omega))
  exact h g2 tk fun b o q => hk b o (Nat.ne_of_lt (Heap.lt_size q)) (sb.extBut b o (Nat.ne_of_lt (Heap.lt_size q)) (Heap.get?_push_of_some _ q))
end
def gStar (K : PySem.W.Frag) (n i : Nat) (t : TGs) : TG := fun v σ H Q => ∃ a xs, v = .ref a ∧ SqT K H a xs ∧ i < n ∧ n ≤ xs.length + 1 ∧ xs.length ≤ 16384 ∧
  ∀ p, H p = none → t (xs.take i ++ [V.ref p] ++ (xs.drop i).drop (xs.length + 1 - n)) σ (upd H p (.lst ((xs.drop i).take (xs.length + 1 - n)))) Q
theorem vals_take : ∀ {xs : List V} {us : List Value} (n : Nat), Vals xs us → Vals (xs.take n) (us.take n)
  | _, _, 0, _ => .nil
  | _, _, n + 1, .nil => .nil
  | _, _, n + 1, .cons a r => .cons a (vals_take n r)
theorem vals_drop : ∀ {xs : List V} {us : List Value} (n : Nat), Vals xs us → Vals (xs.drop n) (us.drop n)
  | _, _, 0, h => h
  | _, _, n + 1, .nil => .nil
  | _, _, n + 1, .cons a r => vals_drop n r
theorem vals_app : ∀ {xs ys : List V} {us vs : List Value}, Vals xs us → Vals ys vs → Vals (xs ++ ys) (us ++ vs)
  | _, _, _, _, .nil, h => h
  | _, _, _, _, .cons a r, h => .cons a (vals_app r h)
section
variable {X : Cx} {pos : Pos}
theorem pg_star {es : List Expr} {k : Nat} {t : TGs} {n i : Nat} (hc : X.calm = true) (h : PGs X es t)
    (hn : (assignEach es X.env).length = n := by rfl) (hst : (assignEach es X.env).findIdx? (·.1) = some i := by rfl) : PG X (.Tuple es k pos) (gStar X.K n i t) := by
  refine ⟨fun pins s σ H v u Q I r hw => ?_⟩
  obtain ⟨a, xs, e1, hq, hi, hl, hz, hw⟩ := hw
  subst e1
  cases r
  obtain ⟨its, rv, ht, _⟩ := I.tuple hq
  have ln := rv.length
  rw [PyProof.Rows.assign_Tuple]
  refine wpAny_bind (wpAny_standAt ?_)
  unfold unpack
  rw [hn, hst]
  refine wpAny_bind (wpAny_holding (starT ht (I.ok.hd hc) hi (by simpa [← ln] using hl) (by simpa [← ln] using hz) fun h' tk hk => ?_))
  have I1 : Inv X pins σ H { s with heap := h', toks := tk } := I.kept (t' := tk) hk
  have es' : its.toArray.size = xs.length := by simp [ln]
  have hf : H h'.objs.size = none := I1.hok.fresh (Nat.le_refl _)
  have I2 : Inv X pins σ (upd H h'.objs.size (.lst ((xs.drop i).take (xs.length + 1 - n)))) { s with heap := h'.push { cls := .type "list", data := .seq ((its.drop i).take (xs.length + 1 - n)).toArray }, toks := tk } := by
    refine I1.laid (t' := tk) (fun b u e => Heap.get?_push_of_some _ e) (Nat.le_refl _) ⟨?_, _, 0, vals_take _ (vals_drop _ rv), Heap.get?_push_size _ rfl⟩
    rw [List.length_take, List.length_drop, sizeLine_eq]; omega
  have q := hw _ hf
  rw [es']
  show wpAny (model X.prog X.w) X.A (assignInOrder ((assignEach es X.env).map (·.2)) (its.take i ++ [.ref h'.objs.size] ++ (its.drop i).drop (xs.length + 1 - n))) _ _ _
  exact h.run pins _ σ _ _ _ Q I2 (vals_app (vals_app (vals_take _ rv) (.cons (show RelV (.ref h'.objs.size) (.ref h'.objs.size) from rfl) .nil)) (vals_drop _ (vals_drop _ rv))) q
theorem pgs_star {e : Expr} {es : List Expr} {t : TG} {u : TGs} {p : Pos} (h1 : PG X e t) (h2 : PGs X es u) : PGs X (.Starred e p :: es) (gCons t u) := by
  refine ⟨fun pins s σ H vs us Q I r h => ?_⟩
  obtain ⟨v, vr, e1, h⟩ := h
  subst e1
  cases r with
  | cons r rr =>
    show wpAny _ _ (assignInOrder (assign e X.env :: (assignEach es X.env).map (·.2)) _) _ _ _
    refine PyProof.Rows.assignInOrder_cons (thn (h1.run pins s σ H _ _ _ I r h) fun _ s1 ⟨σ1, H1, I1, q1⟩ => ?_)
    exact h2.run pins s1 σ1 H1 _ _ Q I1 rr q1
end

/-! ### lists and tuples alike -/
/-- b: a tuple, else a list -/
def SqB (b : Bool) (K : PySem.W.Frag) (H : Hp) (a : Addr) (xs : List V) : Prop := if b then SqT K H a xs else SqL K H a xs
def ItB (b : Bool) (h : Heap) (it a : Addr) (i : Nat) : Prop := if b then h.IsTupleIter it a i else h.IsListIter it a i
def ObB (b : Bool) (h : Heap) (a : Addr) (its : Array Value) : Prop := if b then h.IsTuple a its else h.IsList a its
def itO (b : Bool) (a : Addr) : Obj := { cls := .type (if b then "tuple_iterator" else "list_iterator"), data := .fields #[.ref a, .int 0 0] }
theorem ItB.get {b : Bool} {h : Heap} {it a : Addr} {i : Nat} (x : ItB b h it a i) : ∃ o, h.get? it = some o ∧ ∀ v, o.data ≠ .cell v := by
  cases b with
  | true => obtain ⟨o, e, _, d⟩ := (show h.IsTupleIter it a i from x); exact ⟨o, e, fun v z => by rw [d] at z; cases z⟩
  | false => obtain ⟨o, e, _, d⟩ := (show h.IsListIter it a i from x); exact ⟨o, e, fun v z => by rw [d] at z; cases z⟩
theorem ItB.at {b : Bool} {h h' : Heap} {it a : Addr} {i : Nat} (x : ItB b h it a i) (k : ∀ o, h.get? it = some o → h'.get? it = some o) : ItB b h' it a i := by
  cases b with
  | true => exact Heap.IsTupleIter.at (show h.IsTupleIter it a i from x) k
  | false => exact Heap.IsListIter.at (show h.IsListIter it a i from x) k
theorem ItB.of {b : Bool} {h : Heap} {it a : Addr} (e : h.get? it = some (itO b a)) : ItB b h it a 0 := by
  cases b with
  | true => exact ⟨_, e, rfl, rfl⟩
  | false => exact ⟨_, e, rfl, rfl⟩
theorem begB (b : Bool) (a : Addr) (its : Array Value) : Begins (.ref a) (itO b a) fun h => ObB b h a its := by
  cases b with
  | true => exact begins_tuple a its
  | false => exact begins_list a its
theorem drawB {prog : Program} {w : World} {A : Around} (hh : A.handled = none) (b : Bool) (it a : Addr) (ne : a ≠ it) (its : Array Value) :
    Draws prog w A it [it, a] its.size (fun i v => its[i]? = some v) (fun i h => ItB b h it a i ∧ ObB b h a its) := by
  cases b with
  | true => exact Draws.tuple hh it a ne its
  | false => exact Draws.list hh it a ne its
section
variable {X : Cx} {pins : List (Addr × Obj)} {σ : L2.St} {H : Hp} {s : Shared} {a : Addr} {xs ys : List V} {b : Bool}
theorem Inv.seqB (I : Inv X pins σ H s) (h : SqB b X.K H a xs) : ∃ its : List Value, Vals xs its ∧ ObB b s.heap a its.toArray ∧ a < s.heap.objs.size := by
  cases b with
  | true =>
    obtain ⟨its, rv, p, _⟩ := I.tuple (show SqT X.K H a xs from h)
    obtain ⟨o, e, _⟩ := id p
    exact ⟨its, rv, p, Heap.lt_size e⟩
  | false =>
    obtain ⟨its, rv, p, _⟩ := I.list (show SqL X.K H a xs from h)
    exact ⟨its, rv, p.isList, p.lt⟩
theorem Inv.seqB_inj (I : Inv X pins σ H s) (h : SqB b X.K H a xs) (h' : SqB b X.K H a ys) : xs = ys := by
  cases b with
  | true => exact I.tuple_inj (show SqT X.K H a xs from h) h'
  | false => exact I.list_inj (show SqL X.K H a xs from h) h'
end

/-! ### enumerate -/
theorem meets_enum1 {v : Value} {o : Obj} {Hh : Heap → Prop} (B : Begins v o Hh) :
    Meets (Builtin.«enumerate.__new__» ⟨[.type "enumerate", v], []⟩) (fun _ R s => Hh s.heap ∧
      R (.ok (.ret (.ref (s.heap.push o).objs.size))) { s with heap := (s.heap.push o).push { cls := .type "enumerate", data := .fields #[.none, .bool false, .ref s.heap.objs.size, rawInt 0, .none, .none] } }) :=
  .of_wp fun prog w A R s hq => by
    obtain ⟨hp, gn, dr, tk, os⟩ := s
    obtain ⟨h1, hq⟩ := hq
    have hsub := sub_enumerate
    have q1 : ∀ {A' : Around} {E Q : Value → Shared → Prop}, Q (.ref hp.objs.size) ⟨hp.push o, gn, dr, tk, os⟩ → wpAny (model prog w) A' (pyIter v) Q E ⟨hp, gn, dr, tk, os⟩ := fun q => B.iter prog w _ _ _ _ h1 q
    wp_walk using q1
    refine wpAny_stack_any fun st => wpAny_pure ?_
    split
    · rename_i c _ _ _ _ _
      cases (c == Value.type "enumerate") <;> (wp_walk using q1; exact ⟨_, rfl, hq⟩)
    · wp_walk using q1
      exact ⟨_, rfl, hq⟩
section
variable {prog : Program} {w : World} {A : Around} {E : Value → Shared → Prop} {s : Shared}
theorem enum1_begins {v : Value} {o : Obj} {Hh : Heap → Prop} {Q : Value → Shared → Prop} (B : Begins v o Hh) (h1 : Hh s.heap)
    (h : ∀ h', IsEnum h' (s.heap.objs.size + 1) s.heap.objs.size 0 .none → h'.get? s.heap.objs.size = some o → (∀ b o, s.heap.get? b = some o → h'.get? b = some o) → Q (.ref (s.heap.objs.size + 1)) { s with heap := h' }) :
    wpAny (model prog w) A (call (.type "enumerate") [v]) Q E s := by
  refine callType_new PySem.F.called_enumerate (by decide) (PySem.F.typeCall_enumerate_1 _) (PySem.F.newCall_enumerate_1 _) (fun obj => PySem.F.args_object_init_2 obj _) PySem.F.entry_enumerate_new (meets_enum1 B) ⟨h1, ?_⟩
  have hz : (s.heap.push o).objs.size = s.heap.objs.size + 1 := Heap.size_push ..
  show _ ∧ _
  rw [hz]
  generalize eO : ({ cls := .type "enumerate", data := .fields #[.none, .bool false, .ref s.heap.objs.size, rawInt 0, .none, .none] } : Obj) = oE
  have fr : oE.isFreed = false := by rw [← eO]; rfl
  have he : ((s.heap.push o).push oE).get? (s.heap.objs.size + 1) = some oE := by
    have := Heap.get?_push_size (s.heap.push o) (o := oE) fr
    rw [hz] at this
    exact this
  have he' : IsEnum ((s.heap.push o).push oE) (s.heap.objs.size + 1) s.heap.objs.size 0 .none := by rw [← eO] at he ⊢; exact he
  exact ⟨⟨_, he, by rw [← eO]⟩, h _ he' (Heap.get?_push_of_some _ (Heap.get?_push_size _ B.free)) fun b o x => Heap.get?_push_of_some _ (Heap.get?_push_of_some _ x)⟩
end
def IteB (b : Bool) (K : PySem.W.Frag) (a : Addr) : It :=
  ⟨fun i H => ∃ (xs : List V) (x : V), SqB b K H a xs ∧ xs[i]? = some x, fun i H v H' => ∃ T x, v = .ref T ∧ H T = none ∧ H' = upd H T (.tup [.int (i : Nat), x]) ∧ ∀ xs, SqB b K H a xs → xs[i]? = some x, fun i H => ∃ xs : List V, SqB b K H a xs ∧ xs.length = i⟩
theorem turn_enumB {P : Program} {w : World} {K : PySem.W.Frag} {elts : List Expr} {kk : Nat} {tpos : Pos} (b : Bool) (a e it : Addr) (nai : a ≠ it) (nea : e ≠ a) (nei : e ≠ it) :
    Turn P w K (.Tuple elts kk tpos) (IteB b K a) [e, it] e (fun i h => (∃ old, IsEnum h e it ((i : Nat) : Int) old) ∧ ItB b h it a i) where
  mem := by simp
  obj := fun i h st c hc => by
    obtain ⟨⟨old, he⟩, hi⟩ := st
    have e' : c = e ∨ c = it := by simpa using hc
    rcases e' with z | z
    · rw [z]; exact ⟨_, he, fun v q => nomatch q⟩
    · rw [z]; exact hi.get
  keep := fun i h h' st k => let ⟨⟨old, he⟩, hi⟩ := st; ⟨⟨old, k e (by simp) _ he⟩, hi.at fun o q => k it (by simp) o q⟩
  item := by
    intro X hP hw hK hc i pins s σ H E I hf st hg
    subst hP hw hK
    obtain ⟨⟨old, he⟩, hit⟩ := st
    obtain ⟨xs, x, hq, hx⟩ := hg
    obtain ⟨its, rv, ob, hla⟩ := Inv.seqB I hq
    obtain ⟨u, hu, ru⟩ := rv.get hx
    have hel : e < s.heap.objs.size := Heap.lt_size he
    have hil : it < s.heap.objs.size := by obtain ⟨o, q, _⟩ := hit.get; exact Heap.lt_size q
    have hlt : i < its.toArray.size := by
      have := (List.getElem?_eq_some_iff.mp hu).1
      simpa using this
    have nf : e ∉ [it, a] := by simp [nei, nea]
    refine wpAny_pyNext_enum_itemD (drawB (A := X.A.in1) (I.ok.hd hc) b it a nai its.toArray) he ⟨hit, ob⟩ hlt nei nf fun y h' tk hy ho st1 hT hsz hk => ?_
    have hyu : y = u := by
      have h1 : its[i]? = some y := by simpa using hy
      rw [hu] at h1
      exact (Option.some.inj h1).symm
    subst hyu
    refine ⟨_, rfl, wpAny_letOwnedTupleGo_enum (s := { s with heap := h', toks := tk + 1 }) ho fun h'' he' sb => ?_⟩
    have hT2 : h''.get? s.heap.objs.size = some { cls := .type "tuple", data := .seq #[.int i tk, y] } := (sb.2 _ (Nat.ne_of_gt hel)).trans hT
    have new : ObjOk X.prog X.w (upd H s.heap.objs.size (.tup [.int (i : Nat), x])) h'' s.heap.objs.size (.tup [.int (i : Nat), x]) :=
      ⟨by show 2 ≤ sizeLine; decide, [.int i tk, y], .cons ⟨_, rfl⟩ (.cons ru .nil), ⟨_, hT2, rfl, _, rfl⟩⟩
    have I1 : Inv X pins σ (upd H s.heap.objs.size (.tup [.int (i : Nat), x])) { s with heap := h'', toks := tk + 1 } :=
      I.turnedNew (ch := [e, it]) (fun c o hb q => (sb.2 c (fun z => hb (by simp [z]))).trans (hk c o (fun z => hb (by simp [z])) (fun z => hb (by simp [z])) q)) hf (Nat.le_refl _) new
    refine ⟨.ref s.heap.objs.size, _, I1, rfl, ⟨_, x, rfl, I.hok.fresh (Nat.le_refl _), rfl, fun ys hy => by rw [Inv.seqB_inj I hy hq]; exact hx⟩, ⟨⟨y, ?_⟩, st1.1.at fun o q => (sb.2 it (Ne.symm nei)).trans q⟩, fun c hcm => ?_⟩
    · have e1 : ((i + 1 : Nat) : Int) = (i : Int) + 1 := by omega
      rw [e1]; exact he'
    · have hb' : c < s.heap.objs.size := by
        have e' : c = e ∨ c = it := by simpa using hcm
        rcases e' with z | z
        · rw [z]; exact hel
        · rw [z]; exact hil
      rw [upd_ne (Nat.ne_of_lt hb')]
      exact (hf c hcm).1
  done := by
    intro X hP hw hK hc i pins s σ H E I hf st hg
    subst hP hw hK
    obtain ⟨⟨old, he⟩, hit⟩ := st
    obtain ⟨xs, hq, hx⟩ := hg
    obtain ⟨its, rv, ob, hla⟩ := Inv.seqB I hq
    obtain ⟨f0, f1, f2, f3, f4, f5⟩ := hf it (by simp)
    have hl := rv.length
    have en : i = its.toArray.size := by simp; omega
    subst en
    exact wpAny_pyNext_enum_endD (drawB (A := X.A.in1) (I.ok.hd hc) b it a nai its.toArray) he ⟨hit, ob⟩ fun h' eb => ⟨rfl, I.turned (t' := s.toks) (fun c o hb q => eb c o hb q) f0 f1 f3 f4 f5⟩
  self := fun A i s Q E st h => let ⟨⟨_, he⟩, _⟩ := st; wpAny_pyIter_enum he h
def iEnumB (K : PySem.W.Frag) (ta : TA) : TI := fun σ H R => ta σ H fun vs H1 => ∃ b a xs, vs = [.ref a] ∧ SqB b K H1 a xs ∧ R (IteB b K a) H1
theorem pi_enumB {X : Cx} {e : Expr} {ta : TA} {p pos tpos : Pos} {elts : List Expr} {kk : Nat} (hg : Gl X "enumerate") (hm : X.mg "enumerate" = none) (ha : PA X [e] ta) (hs : starEach [e] X.env = [(false, eval e X.env)] := by rfl) :
    PI X (.Tuple elts kk tpos) (.Call (.Name "enumerate" p) [e] [] pos) (iEnumB X.K ta) := by
  refine ⟨fun pins s σ H R I hq => ?_⟩
  refine PyProof.Rows.Call_ (ld_blt I hg hm PyProof.Rows.boot_enumerate (PyProof.Rows.callWith_type1 (thn (ha.run pos pins s σ H _ I hq) fun us s1 ⟨vs, H1, I1, r1, b, a, xs, ex, hx, q⟩ => ?_) hs rfl))
  subst ex
  cases r1 with
  | cons r rr =>
    cases rr
    cases r
    obtain ⟨its, rv, ob, hla⟩ := Inv.seqB I1 hx
    refine enum1_begins (begB b a its.toArray) ob fun h' he h0 hk => wpAny_pyIter_enum he ?_
    have I2 : Inv X pins σ H1 { s1 with heap := h' } := I1.kept (t' := s1.toks) hk
    have n1 : a ≠ s1.heap.objs.size := Nat.ne_of_lt hla
    have n2 : s1.heap.objs.size + 1 ≠ a := Nat.ne_of_gt (Nat.lt_succ_of_lt hla)
    refine ⟨s1.heap.objs.size + 1, [s1.heap.objs.size + 1, s1.heap.objs.size], _, _, H1, rfl, I2, turn_enumB b a _ _ n1 n2 (Nat.succ_ne_self _), ⟨⟨.none, he⟩, ItB.of h0⟩, fun c hcm => ?_, q⟩
    have hle : s1.heap.objs.size ≤ c := by
      have e' : c = s1.heap.objs.size + 1 ∨ c = s1.heap.objs.size := by simpa using hcm
      rcases e' with z | z
      · rw [z]; exact Nat.le_succ _
      · rw [z]; exact Nat.le_refl _
    exact I1.fpOk hle (I1.hok.fresh hle)

/-! ### zip of two -/
def ItzB (b c : Bool) (K : PySem.W.Frag) (a1 a2 : Addr) : It :=
  ⟨fun i H => ∃ (xs ys : List V) (x y : V), SqB b K H a1 xs ∧ SqB c K H a2 ys ∧ xs[i]? = some x ∧ ys[i]? = some y,
    fun i H v H' => ∃ T x y, v = .ref T ∧ H T = none ∧ H' = upd H T (.tup [x, y]) ∧ (∀ xs, SqB b K H a1 xs → xs[i]? = some x) ∧ ∀ ys, SqB c K H a2 ys → ys[i]? = some y,
    fun i H => ∃ xs ys : List V, SqB b K H a1 xs ∧ SqB c K H a2 ys ∧ i ≤ xs.length ∧ i ≤ ys.length ∧ (i = xs.length ∨ i = ys.length)⟩
/-- the zip's cells, apart from the walked -/
structure ZApart (z TI TO i1 i2 a1 a2 : Addr) : Prop where
  n1 : a1 ≠ i1
  n2 : a2 ≠ i2
  sep : ZipSep2 z TI TO i1 i2 [i1, a1] [i2, a2]
theorem turn_zipB {P : Program} {w : World} {K : PySem.W.Frag} {elts : List Expr} {kk : Nat} {tpos : Pos} (b c : Bool) {a1 a2 z TI TO i1 i2 : Addr} (D : ZApart z TI TO i1 i2 a1 a2) :
    Turn P w K (.Tuple elts kk tpos) (ItzB b c K a1 a2) [z, TI, TO, i1, i2] z (fun i h => IsZip h z TI TO .none ∧ IsTupOf2 h TI (.ref i1) (.ref i2) ∧ (∃ x y, IsTupOf2 h TO x y) ∧ ItB b h i1 a1 i ∧ ItB c h i2 a2 i) where
  mem := by simp
  obj := fun i h st u hu => by
    obtain ⟨hz, hTI, ⟨x, y, hTO⟩, g1, g2⟩ := st
    have e' : u = z ∨ u = TI ∨ u = TO ∨ u = i1 ∨ u = i2 := by simpa using hu
    rcases e' with q | q | q | q | q <;> rw [q]
    · exact ⟨_, hz, fun v q => nomatch q⟩
    · exact ⟨_, hTI, fun v q => nomatch q⟩
    · exact ⟨_, hTO, fun v q => nomatch q⟩
    · exact g1.get
    · exact g2.get
  keep := fun i h h' st k => by
    obtain ⟨hz, hTI, ⟨x, y, hTO⟩, g1, g2⟩ := st
    refine ⟨k z (by simp) _ hz, k TI (by simp) _ hTI, ⟨x, y, k TO (by simp) _ hTO⟩, g1.at fun o q => ?_, g2.at fun o q => ?_⟩
    · exact k i1 (by simp) o q
    · exact k i2 (by simp) o q
  item := by
    intro X hP hw hK hc i pins s σ H E I hf st hg
    subst hP hw hK
    obtain ⟨hz, hTI, ⟨x0, y0, hTO⟩, g1, g2⟩ := st
    obtain ⟨xs, ys, x, y, qx, qy, hx, hy⟩ := hg
    obtain ⟨its, rv, ob1, _⟩ := Inv.seqB I qx
    obtain ⟨jts, rw', ob2, _⟩ := Inv.seqB I qy
    obtain ⟨u, hu, ru⟩ := rv.get hx
    obtain ⟨v, hv, rv2⟩ := rw'.get hy
    have S := D.sep
    have hzl : z < s.heap.objs.size := Heap.lt_size hz
    have lt1 : i < its.toArray.size := by simpa using (List.getElem?_eq_some_iff.mp hu).1
    have lt2 : i < jts.toArray.size := by simpa using (List.getElem?_eq_some_iff.mp hv).1
    have d1 := drawB (prog := X.prog) (w := X.w) (A := X.A.in1) (I.ok.hd hc) b i1 a1 D.n1 its.toArray
    have d2 := drawB (prog := X.prog) (w := X.w) (A := X.A.in1) (I.ok.hd hc) c i2 a2 D.n2 jts.toArray
    refine wpAny_pyNext_zipD2_item S d1 d2 hz hTI hTO ⟨g1, ob1⟩ ⟨g2, ob2⟩ lt1 lt2 fun u' v' h' tk p1 p2 z' TO' s1 s2 hT hsz hk => ?_
    have eu : u' = u := by
      have t : its[i]? = some u' := by simpa using p1
      rw [hu] at t; exact (Option.some.inj t).symm
    have ev : v' = v := by
      have t : jts[i]? = some v' := by simpa using p2
      rw [hv] at t; exact (Option.some.inj t).symm
    subst eu ev
    refine ⟨_, rfl, wpAny_letOwnedTupleGo_zip (s := { s with heap := h', toks := tk }) z' fun h'' z'' sb => ?_⟩
    have hT2 : h''.get? s.heap.objs.size = some { cls := .type "tuple", data := .seq #[u', v'] } := (sb.2 _ (Nat.ne_of_gt hzl)).trans hT
    have new : ObjOk X.prog X.w (upd H s.heap.objs.size (.tup [x, y])) h'' s.heap.objs.size (.tup [x, y]) := ⟨by show 2 ≤ sizeLine; decide, [u', v'], .cons ru (.cons rv2 .nil), ⟨_, hT2, rfl, _, rfl⟩⟩
    have far : ∀ t o, t ∉ [z, TI, TO, i1, i2] → s.heap.get? t = some o → h''.get? t = some o := fun t o nb q => by
      simp only [List.mem_cons, List.not_mem_nil, or_false, not_or] at nb
      exact (sb.2 t nb.1).trans (hk t o nb.1 nb.2.2.1 nb.2.2.2.1 nb.2.2.2.2 q)
    have I1 : Inv X pins σ (upd H s.heap.objs.size (.tup [x, y])) { s with heap := h'', toks := tk } := I.turnedNew (ch := [z, TI, TO, i1, i2]) far hf (Nat.le_refl _) new
    refine ⟨.ref s.heap.objs.size, _, I1, rfl, ⟨_, x, y, rfl, I.hok.fresh (Nat.le_refl _), rfl, fun l hl => by rw [Inv.seqB_inj I hl qx]; exact hx, fun l hl => by rw [Inv.seqB_inj I hl qy]; exact hy⟩, ⟨z'', ?_, ⟨u', v', ?_⟩, ?_, ?_⟩, fun t htm => ?_⟩
    · exact (sb.2 _ S.TIz).trans (hk _ _ S.TIz S.TITO S.TIi1 S.TIi2 hTI)
    · exact (sb.2 _ S.TOz).trans TO'
    · exact s1.1.at fun o q => (sb.2 _ (Ne.symm S.zi1)).trans q
    · exact s2.1.at fun o q => (sb.2 _ (Ne.symm S.zi2)).trans q
    · have hlt : t < s.heap.objs.size := by
        have e' : t = z ∨ t = TI ∨ t = TO ∨ t = i1 ∨ t = i2 := by simpa using htm
        rcases e' with q | q | q | q | q <;> rw [q]
        · exact hzl
        · exact Heap.lt_size hTI
        · exact Heap.lt_size hTO
        · obtain ⟨o, q, _⟩ := g1.get; exact Heap.lt_size q
        · obtain ⟨o, q, _⟩ := g2.get; exact Heap.lt_size q
      rw [upd_ne (Nat.ne_of_lt hlt)]
      exact (hf t htm).1
  done := by
    intro X hP hw hK hc i pins s σ H E I hf st hg
    subst hP hw hK
    obtain ⟨hz, hTI, ⟨x0, y0, hTO⟩, g1, g2⟩ := st
    obtain ⟨xs, ys, qx, qy, l1, l2, hend⟩ := hg
    obtain ⟨its, rv, ob1, _⟩ := Inv.seqB I qx
    obtain ⟨jts, rw', ob2, _⟩ := Inv.seqB I qy
    have e1 : xs.length = its.toArray.size := by rw [rv.length]; simp
    have e2 : ys.length = jts.toArray.size := by rw [rw'.length]; simp
    rw [e1] at l1 hend
    rw [e2] at l2 hend
    have d1 := drawB (prog := X.prog) (w := X.w) (A := X.A.in1) (I.ok.hd hc) b i1 a1 D.n1 its.toArray
    have d2 := drawB (prog := X.prog) (w := X.w) (A := X.A.in1) (I.ok.hd hc) c i2 a2 D.n2 jts.toArray
    refine wpAny_pyNext_zipD2_end D.sep d1 d2 hz hTI hTO ⟨g1, ob1⟩ ⟨g2, ob2⟩ l1 l2 hend fun h' tk hk => ⟨rfl, ?_⟩
    refine I.turnedL (t' := tk) (ch := [z, TI, TO, i1, i2]) (fun t o nb q => ?_) hf
    simp only [List.mem_cons, List.not_mem_nil, or_false, not_or] at nb
    exact hk t o nb.1 nb.2.2.1 nb.2.2.2.1 nb.2.2.2.2 q
  self := fun A i s Q E st h => wpAny_pyIter_zip st.1 h
theorem zapart {N a1 a2 : Nat} (h1 : a1 < N) (h2 : a2 < N) : ZApart (N + 4) (N + 2) (N + 3) N (N + 1) a1 a2 :=
  ⟨Nat.ne_of_lt h1, Nat.ne_of_lt (Nat.lt_succ_of_lt h2), zip_sep2 (fun b hb => by rw [List.mem_singleton.mp hb]; exact h1) fun b hb => by rw [List.mem_singleton.mp hb]; exact h2⟩
def iZipB (K : PySem.W.Frag) (ta : TA) : TI := fun σ H R => ta σ H fun vs H1 => ∃ b c a1 a2 xs ys, vs = [.ref a1, .ref a2] ∧ SqB b K H1 a1 xs ∧ SqB c K H1 a2 ys ∧ R (ItzB b c K a1 a2) H1
theorem pi_zipB {X : Cx} {e e2 : Expr} {ta : TA} {p pos tpos : Pos} {elts : List Expr} {kk : Nat} (hg : Gl X "zip") (hm : X.mg "zip" = none) (ha : PA X [e, e2] ta)
    (hs : starEach [e, e2] X.env = (false, eval e X.env) :: starEach [e2] X.env := by rfl) (hpl : (backTo pos (starEach [e2] X.env)).any (·.1) = false := by rfl) :
    PI X (.Tuple elts kk tpos) (.Call (.Name "zip" p) [e, e2] [] pos) (iZipB X.K ta) := by
  refine ⟨fun pins s σ H R I hq => ?_⟩
  refine PyProof.Rows.Call_ (ld_blt I hg hm PyProof.Rows.boot_zip (PyProof.Rows.callWith_type1 (thn (ha.run pos pins s σ H _ I hq) fun us s1 ⟨vs, H1, I1, r1, b, c, a1, a2, xs, ys, ex, qx, qy, q⟩ => ?_) hs hpl))
  subst ex
  cases r1 with
  | cons r rr =>
    cases rr with
    | cons r' rr =>
      cases rr
      cases r
      cases r'
      obtain ⟨its, rv, ob1, l1⟩ := Inv.seqB I1 qx
      obtain ⟨jts, rv2, ob2, l2⟩ := Inv.seqB I1 qy
      refine zip_begins2 (begB b a1 its.toArray) (begB c a2 jts.toArray) ob1 ob2 fun h' hz hTI hTO g1 g2 hsz hk => wpAny_pyIter_zip hz ?_
      have I2 : Inv X pins σ H1 { s1 with heap := h' } := I1.kept (t' := s1.toks) hk
      refine ⟨_, _, _, _, H1, rfl, I2, turn_zipB b c (zapart l1 l2), ⟨hz, hTI, ⟨_, _, hTO⟩, ItB.of g1, ItB.of g2⟩, fun t htm => ?_, q⟩
      have hle : s1.heap.objs.size ≤ t := by
        have e' : t = s1.heap.objs.size + 4 ∨ t = s1.heap.objs.size + 2 ∨ t = s1.heap.objs.size + 3 ∨ t = s1.heap.objs.size ∨ t = s1.heap.objs.size + 1 := by simpa using htm
        rcases e' with q | q | q | q | q <;> rw [q] <;> first | exact Nat.le_refl _ | exact Nat.le_add_right _ _
      exact I1.fpOk hle (I1.hok.fresh hle)

/-! ### for (k, v) in d.items(), d a locked dict with tuple keys -/
def ItiT (d : Addr) (o : Obj) (kvs : List (List Key × V)) : It :=
  ⟨fun i H => H d = some (.frz o (.dT kvs)) ∧ i < kvs.length,
    fun i H x H' => ∃ T q k v, kvs[i]? = some (k, v) ∧ x = .ref T ∧ H T = none ∧ H q = some (.tup (k.map kV)) ∧ H' = upd H T (.tup [.ref q, v]),
    fun i H => H d = some (.frz o (.dT kvs)) ∧ i = kvs.length⟩
theorem frzT2 {X : Cx} {pins : List (Addr × Obj)} {σ : L2.St} {H : Hp} {s : Shared} {d : Addr} {o : Obj} {kvs : List (List Key × V)} (I : Inv X pins σ H s) (h : H d = some (.frz o (.dT kvs))) :
    (d == sysModules) = false ∧ ∃ (es : Array DictEntry) (ep : Nat), DT.Raw s.heap d es ep ∧ o.data = .dict es ep ∧ es.size = kvs.length ∧
      ∀ (i : Nat) (k : List Key) (v : V), kvs[i]? = some (k, v) → ∃ (en : DictEntry) (q : Addr), es[i]? = some en ∧ en.key = .ref q ∧ H q = some (.tup (k.map kV)) ∧ RelV v en.val := by
  obtain ⟨hd, z, hs, xs, pr, o', es, ep, ho, hx, hdt, he, _⟩ := I.hok d _ h
  rw [hd] at ho
  cases ho
  refine ⟨hs, es, ep, ⟨o, hd, hx, hdt⟩, hdt, ?_, fun i k v e => ?_⟩
  · have l1 : es.size = xs.length := size_of_entries he
    have l2 : kvs.length = xs.length := Paired.length pr
    omega
  · obtain ⟨b, hb, e1, e2, e3⟩ := L2.paired_get pr e
    have q := entry_at he i
    rw [hb] at q
    exact ⟨_, b.2.1, q, rfl, e2, e3⟩
theorem turn_itemsT {P : Program} {w : World} {K : PySem.W.Frag} {d : Addr} {o : Obj} {es : Array DictEntry} {ep : Nat} {kvs : List (List Key × V)} {elts : List Expr} {kk : Nat} {tpos : Pos} (it : Addr) (hod : o.data = .dict es ep) :
    Turn P w K (.Tuple elts kk tpos) (ItiT d o kvs) [it] it (fun i h => ∃ x y, IsItemIter h it d i kvs.length ep x y) where
  mem := by simp
  obj := fun i h st b hb => by
    obtain ⟨x, y, e⟩ := st
    rw [List.mem_singleton.mp hb]
    exact ⟨_, e, fun v z => nomatch z⟩
  keep := fun i h h' st k => let ⟨x, y, e⟩ := st; ⟨x, y, k it (by simp) _ e⟩
  item := by
    intro X hP hw hK hc i pins s σ H E I hf st hg
    subst hP hw hK
    obtain ⟨hd, hi⟩ := hg
    obtain ⟨hs, es', ep', raw, hdt, hsz, ent⟩ := frzT2 I hd
    obtain ⟨rfl, rfl⟩ := dict_ep hod hdt
    obtain ⟨⟨k, v⟩, hkv⟩ : ∃ p, kvs[i]? = some p := ⟨kvs[i], List.getElem?_eq_getElem hi⟩
    obtain ⟨en, q, hen, hkey, hq, hv⟩ := ent i k v hkv
    obtain ⟨x, y, he⟩ := st
    rw [← hsz] at he
    have hlt : it < s.heap.objs.size := Heap.lt_size he
    have hi' : i < es'.size := by omega
    have ei : es'[i] = en := by
      rw [Array.getElem?_eq_getElem hi'] at hen
      exact Option.some.inj hen
    refine DT.nextI he raw hi' fun h' ho hT hz hk => ?_
    rw [ei] at ho hT
    refine ⟨_, rfl, wpAny_letOwnedTupleGo_items (s := { s with heap := h' }) ho fun h'' he' sb => ?_⟩
    have hT2 : h''.get? s.heap.objs.size = some { cls := .type "tuple", data := .seq #[en.key, en.val] } := (sb.2 _ (Nat.ne_of_gt hlt)).trans hT
    have new : ObjOk X.prog X.w (upd H s.heap.objs.size (.tup [.ref q, v])) h'' s.heap.objs.size (.tup [.ref q, v]) :=
      ⟨by show 2 ≤ sizeLine; decide, [en.key, en.val], .cons (by rw [hkey]; exact (rfl : RelV (.ref q) (.ref q))) (.cons hv .nil), ⟨_, hT2, rfl, _, rfl⟩⟩
    have I1 : Inv X pins σ (upd H s.heap.objs.size (.tup [.ref q, v])) { s with heap := h'' } :=
      I.turnedNew (t' := s.toks) (ch := [it]) (fun b ob nb e => (sb.2 b fun z => nb (List.mem_singleton.mpr z)).trans (hk b ob (fun z => nb (List.mem_singleton.mpr z)) e)) hf (Nat.le_refl _) new
    refine ⟨.ref s.heap.objs.size, _, I1, rfl, ⟨_, q, k, v, hkv, rfl, I.hok.fresh (Nat.le_refl _), hq, rfl⟩, ⟨en.key, en.val, ?_⟩, fun b hb => ?_⟩
    · rw [← hsz]; exact he'
    · rw [List.mem_singleton.mp hb, upd_ne (Nat.ne_of_lt hlt)]
      exact (hf it (by simp)).1
  done := by
    intro X hP hw hK hc i pins s σ H E I hf st hg
    subst hP hw hK
    obtain ⟨hd, hi⟩ := hg
    obtain ⟨f0, f1, f2, f3, f4, f5⟩ := hf it (by simp)
    obtain ⟨hs, es', ep', raw, hdt, hsz, ent⟩ := frzT2 I hd
    obtain ⟨rfl, rfl⟩ := dict_ep hod hdt
    obtain ⟨x, y, he⟩ := st
    rw [← hsz] at he
    exact DT.endI (I.ok.hd hc) he raw (by omega) fun h' eb => ⟨rfl, I.turned (t' := s.toks) (fun b ob hb e => eb b ob hb e) f0 f1 f3 f4 f5⟩
  self := fun A i s Q E st h => let ⟨_, _, e⟩ := st; PySem.W.kcp_self e h
/-- the pairs of a locked dict, of either kind of keys -/
def iItemsA (td : TE) : TI := fun σ H R => td σ H fun x H1 => ∃ d o, x = .ref d ∧ ((∃ kvs, H1 d = some (.frz o (.dK kvs)) ∧ R (Iti d o kvs) H1) ∨ ∃ kvs, H1 d = some (.frz o (.dT kvs)) ∧ R (ItiT d o kvs) H1)
theorem pi_itemsA {X : Cx} {e : Expr} {td : TE} {apos cpos : Pos} {elts : List Expr} {kk : Nat} {tpos : Pos} (he : PE X e td) (hbase : attributeBase e "items" X.env (eval e X.env) = eval e X.env := by rfl) (hline : (apos.endLine == cpos.line) = true := by rfl) :
    PI X (.Tuple elts kk tpos) (.Call (.Attribute e "items" apos) [] [] cpos) (iItemsA td) := by
  refine ⟨fun pins s σ H R I h => ?_⟩
  refine wpAny_Call_method (T := "dict") (id := "dict.items") hbase rfl hline PySem.F.plainAttrs_dict PySem.F.slot_dict_items PySem.F.type_dict_items (thn (he.run pins s σ H _ I h) fun u s1 ⟨x, H1, I1, rx, d, o, ex, q⟩ => ?_)
  subst ex
  obtain rfl : u = Value.ref d := rx
  have I2 : Inv X pins σ H1 { s1 with heap := s1.heap.push { cls := .type "dict_items", data := .fields #[.ref d] } } := I1.kept (t' := s1.toks) fun b ob q => Heap.get?_push_of_some _ q
  rcases q with ⟨kvs, hd, q⟩ | ⟨kvs, hd, q⟩
  · obtain ⟨hs, hgd, hx, es, ep, vs, hdt, hsz, kv, hm⟩ := I1.frzK hd
    have hl : kvs.length = vs.length := Paired.length kv
    refine ⟨hm.dictOf.typeIs, hm.dictOf.mapOf.noDict, ?_⟩
    have fin : wpAny (model X.prog X.w) X.A (pyIter (.ref s1.heap.objs.size)) (PIE X pins σ (.Tuple elts kk tpos) R) X.xe { s1 with heap := s1.heap.push { cls := .type "dict_items", data := .fields #[.ref d] } } := by
      refine wpAny_pyIter_items (d := d) (knd := mixKind X.prog X.w) ⟨_, Heap.get?_push_size _ rfl, rfl, rfl⟩ (hm.push _) (pi_one (tk := s1.toks) I2 _ (turn_items _ hdt) ⟨.none, .none, ?_⟩ q)
      rw [hl]
      exact Heap.get?_push_size _ rfl
    show wpAny _ _ (callWith cpos (.builtin "dict.items") [.ref d] [] []) _ X.xe s1
    exact method_meetsIn PySem.F.slot_dict_items PySem.F.entry_dict_items rfl (PySem.evalArgs_none ⟨rfl, hm.dictOf.typeIs, PySem.F.args_dict_items_1 _, _, meets_dict_items (mixKind X.prog X.w) d hs, ⟨vs, hm.dictOf⟩, fin⟩)
  · obtain ⟨hs, es, ep, raw, hdt, hsz, ent⟩ := frzT2 I1 hd
    obtain ⟨o', ho', hx', hd'⟩ := id raw
    refine ⟨raw.typeIs, fun a ea => by cases ea; exact ⟨o', ho', hx'.2.1⟩, ?_⟩
    have fin : wpAny (model X.prog X.w) X.A (pyIter (.ref s1.heap.objs.size)) (PIE X pins σ (.Tuple elts kk tpos) R) X.xe { s1 with heap := s1.heap.push { cls := .type "dict_items", data := .fields #[.ref d] } } := by
      refine DT.iterI (d := d) ⟨_, Heap.get?_push_size _ rfl, rfl, rfl⟩ (raw.push _) (pi_one (tk := s1.toks) I2 _ (turn_itemsT _ hdt) ⟨.none, .none, ?_⟩ q)
      rw [← hsz]
      exact Heap.get?_push_size _ rfl
    show wpAny _ _ (callWith cpos (.builtin "dict.items") [.ref d] [] []) _ X.xe s1
    exact method_meetsIn PySem.F.slot_dict_items PySem.F.entry_dict_items rfl (PySem.evalArgs_none ⟨rfl, raw.typeIs, PySem.F.args_dict_items_1 _, _, DT.meetsItems (es := es) (ep := ep) hs, raw, fin⟩)
end L3

/-! L3K: starred targets; list comprehensions; enumerate, zip, dicts as what is walked; locks. -/
namespace L3
open PySem PySem.Spec L2

/-- a, *b, c = a tuple; the i-th of n -/
def gTs (n i : Nat) (m : TMs) : TM := fun d ρ g => match d with
  | .tup ds => if i < n ∧ n ≤ ds.length + 1 ∧ ds.length ≤ 16384 then m (ds.take i ++ [.obj g.length] ++ (ds.drop i).drop (ds.length + 1 - n)) ρ (g ++ [.lst ((ds.drop i).take (ds.length + 1 - n))]) else none
  | _ => none
section
variable {X : Cx} {W : WX} {pos : Pos} {e : Expr} {es : List Expr} {m : TM} {n : TMs}
theorem sgs_star {p : Pos} (h1 : SG X e m) (h2 : SGs X es n) : SGs X (.Starred e p :: es) (gCn m n) :=
  ⟨PGs.imp (pgs_star h1.pg h2.pg) fun v σ H Q ⟨ι, g, ρ, d, r, hρ, hd, h⟩ => by
    cases hd with
    | nil => exact h.elim
    | @cons v vs d ds hd hds =>
      refine ⟨v, vs, rfl, ι, g, ρ, d, r, hρ, hd, ?_⟩
      unfold gCn at h
      cases em : m d ρ g with
      | none => simp only [em] at h; exact h
      | some p =>
        obtain ⟨ρ1, g1⟩ := p
        simp only [em] at h
        exact fun ι1 H1 σ1 s1 e1 => ⟨ι1, g1, ρ1, ds, s1.rel, e1, s1.denAll hds, RunG.step h s1⟩⟩
theorem sg_tupS {k c i : Nat} (hc : X.calm = true) (h : SGs X es n)
    (hn : (assignEach es X.env).length = c := by rfl) (hst : (assignEach es X.env).findIdx? (·.1) = some i := by rfl) : SG X (.Tuple es k pos) (gTs c i n) :=
  ⟨PG.imp (pg_star hc h.pg hn hst) fun v σ H Q ⟨ι, g, ρ, d, r, hρ, hd, h⟩ => by
    cases hd with
    | @tup a xs ds hs ha =>
      have ln := ha.length
      have h : RunG X.mg X.K Q ι H (if i < c ∧ c ≤ ds.length + 1 ∧ ds.length ≤ 16384 then n (ds.take i ++ [.obj g.length] ++ (ds.drop i).drop (ds.length + 1 - c)) ρ (g ++ [.lst ((ds.drop i).take (ds.length + 1 - c))]) else none) := h
      by_cases hl : i < c ∧ c ≤ ds.length + 1 ∧ ds.length ≤ 16384
      · rw [if_pos hl] at h
        refine ⟨_, xs, rfl, hs.1, hl.1, by rw [ln]; exact hl.2.1, by rw [ln]; exact hl.2.2, fun p hp => ?_⟩
        rw [ln]
        have s0 : Step X.mg X.K ι H ι g (upd H p (.lst ((xs.drop i).take (ds.length + 1 - c)))) := Step.side r hp
        have s2 : Step X.mg X.K ι H (ι ++ [p]) (g ++ [.lst ((ds.drop i).take (ds.length + 1 - c))]) (upd H p (.lst ((xs.drop i).take (ds.length + 1 - c)))) := Step.lay r hp
          ⟨_, upd_same, DenAll.mono (fun n a e => by rw [List.getElem?_append_left (List.getElem?_eq_some_iff.mp e).1]; exact e) s0.tup s0.rol _ _ ((ha.drop i).take _)⟩
        have ha2 := s2.denAll ha
        refine ⟨_, _, ρ, _, s2.rel, hρ.step s2, ?_, RunG.step h s2⟩
        exact ((ha2.take i).append (.cons (.obj (by rw [← r.len]; simp)) .nil)).append ((ha2.drop i).drop _)
      · rw [if_neg hl] at h; exact h.elim
    | _ => exact h.elim⟩
end

/-! ### comprehensions -/
structure SH (X : Cx) (e : Expr) (t : Tg) : Prop where
  pg : PG X e (tgH X.K t)
structure SHs (X : Cx) (es : List Expr) (is : List Nat) : Prop where
  pgs : PGs X es (hNms is)
section
variable {X : Cx} {W : WX} {pos : Pos}
theorem sh_nm (i : Nat) {x : Str} (hN : X.N.Nodup) (hi : X.N[i]? = some x := by rfl) (hx : Loc X.env.scope x := by first | exact Or.inl rfl | exact Or.inr rfl) (hf : X.fn x = true ∨ X.env.scope.names.lookup x = some .local := by first | exact .inl rfl | exact .inr rfl | assumption) : SH X (.Name x pos) (.nm i) := ⟨pg_name hN hi hx hf⟩
theorem shs_nil : SHs X [] [] := ⟨pgs_nil⟩
theorem shs_cons (i : Nat) {x : Str} {es : List Expr} {is : List Nat} (hN : X.N.Nodup) (h2 : SHs X es is) (hi : X.N[i]? = some x := by rfl) (hx : Loc X.env.scope x := by first | exact Or.inl rfl | exact Or.inr rfl) (hf : X.fn x = true ∨ X.env.scope.names.lookup x = some .local := by first | exact .inl rfl | exact .inr rfl | assumption)
    (hs : (assignEach (.Name x pos :: es) X.env).map (·.2) = assign (.Name x pos) X.env :: (assignEach es X.env).map (·.2) := by rfl) : SHs X (.Name x pos :: es) (i :: is) := ⟨pgs_cons (pg_name hN hi hx hf) h2.pgs hs⟩
theorem sh_tp {es : List Expr} {k : Nat} {is : List Nat} (hc : X.calm = true) (h : SHs X es is) (hn : (assignEach es X.env).length = is.length := by rfl) (hst : (assignEach es X.env).findIdx? (·.1) = none := by rfl) : SH X (.Tuple es k pos) (.tp is) := ⟨pg_tup hc h.pgs hn hst⟩
variable {elt tg iter : Expr} {ifs : List Expr} {scope : Scope} {own : List (Str × Nat)} {im : IM} {t : Tg} {mt me : EM}
theorem se_lc (hc : X.calm = true) (hN : X.N.Nodup) (ok : BlkOk X.N X.env.scope scope own) (hm : ∀ i ∈ tgS t, i ∈ own.map (·.2)) (hi : SI X W tg iter im)
    (hg : ∀ (s : Shared) (H : Hp) (C : Addr) (cl : List (Str × Addr)) (fp : List Addr), SH (X.blk s H scope (compEnvC scope cl C X.env) fp) tg t)
    (ht : ∀ (s : Shared) (H : Hp) (C : Addr) (cl : List (Str × Addr)) (fp : List Addr), STs (X.blk s H scope (compEnvC scope cl C X.env) fp) ifs mt)
    (he : ∀ (s : Shared) (H : Hp) (C : Addr) (cl : List (Str × Addr)) (fp : List Addr), SE (X.blk s H scope (compEnvC scope cl C X.env) fp) W0 elt me)
    (hs : ∀ x, foldedSetIterable iter X.env x = pure x := by intro _; rfl) : SE X W (.ListComp elt [⟨tg, iter, ifs, 0⟩] scope pos) (mLc im t mt me (own.map (·.2))) :=
  ⟨PE.imp (pe_lc hc hN hi.pi ok (fun s H C cl fp => (hg s H C cl fp).pg) (fun s H C cl fp => (ht s H C cl fp).pts) (fun s H C cl fp => (he s H C cl fp).pe) hs) (tF_lc hm)⟩
theorem ss_setLc (i : Nat) {y : Str} {py spos : Pos} (hc : X.calm = true) (hN : X.N.Nodup) (ok : BlkOk X.N X.env.scope scope own) (hm : ∀ i ∈ tgS t, i ∈ own.map (·.2)) (hi : SI X W tg iter im)
    (hg : ∀ (s : Shared) (H : Hp) (C : Addr) (cl : List (Str × Addr)) (fp : List Addr), SH (X.blk s H scope (compEnvC scope cl C X.env) fp) tg t)
    (ht : ∀ (s : Shared) (H : Hp) (C : Addr) (cl : List (Str × Addr)) (fp : List Addr), STs (X.blk s H scope (compEnvC scope cl C X.env) fp) ifs mt)
    (he : ∀ (s : Shared) (H : Hp) (C : Addr) (cl : List (Str × Addr)) (fp : List Addr), SE (X.blk s H scope (compEnvC scope cl C X.env) fp) W0 elt me)
    (hy : X.N[i]? = some y := by rfl) (hyl : X.env.scope.names.lookup y = some .local := by rfl) (hsw : swapsWith (.ListComp elt [⟨tg, iter, ifs, 0⟩] scope pos) (some (.Name y py)) spos.line X.env = pure true := by rfl)
    (hs : ∀ x, foldedSetIterable iter X.env x = pure x := by intro _; rfl) : SS X W (.Assign [.Name y py] (.ListComp elt [⟨tg, iter, ifs, 0⟩] scope pos) spos) (sAsg (mLc im t mt me (own.map (·.2))) (gNm i)) :=
  ⟨PS.imp (ps_setLc hc hN hy hyl hsw hi.pi ok (fun s H C cl fp => (hg s H C cl fp).pg) (fun s H C cl fp => (ht s H C cl fp).pts) (fun s H C cl fp => (he s H C cl fp).pe) hs) fun D σ H ⟨ι, g, ρ, r, hρ, h⟩ => by
    refine tF_lc hm σ H _ ⟨ι, g, ρ, r, hρ, RunX.mono (RunS.bind (Dm := fun ι H v d => Den X.K ι H v d) hρ h) fun v H1 ⟨ι1, g1, d, s1, hd, h1⟩ => ?_⟩
    exact h1 ι1 H1 _ (Step.refl s1.rel) ((hρ.step s1).set i hd)⟩
end

/-! ### enumerate, zip -/
def seqChk (d : D) (g : GH) : Option (List D × Chk) := match d with
  | .tup ds => some (ds, [])
  | .rol ds => some (ds, [])
  | .obj n => (rdL g n).map fun ds => (ds, [(n, ds)])
  | _ => none
def enumD : Nat → List D → List D
  | _, [] => []
  | i, d :: ds => .tup [.int (i : Nat), d] :: enumD (i + 1) ds
def zipD : List D → List D → List D
  | d :: ds, e :: es => .tup [d, e] :: zipD ds es
  | _, _ => []
theorem enumD_get : ∀ (ds : List D) (k i : Nat), (enumD k ds)[i]? = ds[i]?.map fun d => .tup [.int ((k + i : Nat) : Int), d]
  | [], k, i => by simp [enumD]
  | d :: ds, k, 0 => by simp [enumD]
  | d :: ds, k, i + 1 => by
    simp only [enumD, List.getElem?_cons_succ, enumD_get ds (k + 1) i]
    rw [show k + 1 + i = k + (i + 1) by omega]
theorem enumD_len : ∀ (ds : List D) (k : Nat), (enumD k ds).length = ds.length
  | [], _ => rfl
  | d :: ds, k => by simp [enumD, enumD_len ds]
theorem zipD_get : ∀ (ds es : List D) (i : Nat), (zipD ds es)[i]? = match ds[i]?, es[i]? with
    | some d, some e => some (.tup [d, e])
    | _, _ => none
  | [], es, i => by cases es <;> simp [zipD]
  | d :: ds, [], i => by simp [zipD]
  | d :: ds, e :: es, 0 => by simp [zipD]
  | d :: ds, e :: es, i + 1 => by simp [zipD, zipD_get ds es i]
theorem zipD_len : ∀ (ds es : List D), (zipD ds es).length = min ds.length es.length
  | [], es => by cases es <;> simp [zipD]
  | d :: ds, [] => by simp [zipD]
  | d :: ds, e :: es => by simp [zipD, zipD_len ds es]
theorem chkOk_app : ∀ (c c' : Chk) (g : GH), chkOk (c ++ c') g = (chkOk c g && chkOk c' g)
  | [], c', g => by simp [chkOk]
  | (n, ds) :: c, c', g => by simp [chkOk, chkOk_app c c' g, Bool.and_assoc]
def mItE (m : EM) : IM := fun ρ g => (m ρ g).bind fun d g1 => match seqChk d g1 with
  | some (ds, c) => .ok (enumD 0 ds, c) g1
  | none => .bad
def mItZ (m m' : EM) : IM := fun ρ g => (m ρ g).bind fun d g1 => (m' ρ g1).bind fun e g2 => match seqChk d g2, seqChk e g2 with
  | some (ds, c), some (es, c') => .ok (zipD ds es, c ++ c') g2
  | _, _ => .bad
section
variable {mg : Str → Option Value} {K : PySem.W.Frag}
/-- a sequence that stands while c holds -/
def SeqS (mg : Str → Option Value) (K : PySem.W.Frag) (b : Bool) (a : Addr) (ds : List D) (c : Chk) (ι0 : List Addr) (H0 : Hp) : Prop :=
  ∀ ι g H, Step mg K ι0 H0 ι g H → chkOk c g = true → ∃ xs, SqB b K H a xs ∧ DenAll K ι H xs ds
theorem seqS_of {ι : List Addr} {g : GH} {H : Hp} {d : D} {ds : List D} {c : Chk} {v : V} (r : Rel mg K ι g H) (h : seqChk d g = some (ds, c)) (hv : Den K ι H v d) : ∃ a b xs, v = .ref a ∧ SqB b K H a xs ∧ SeqS mg K b a ds c ι H := by
  cases hv with
  | @tup a xs ds' ha hxs =>
    cases h
    exact ⟨a, true, xs, rfl, ha.1, fun ι' g' H' s _ => ⟨xs, (s.tup _ _ ha).1, s.denAll hxs⟩⟩
  | @rol a xs ds' ha hxs =>
    cases h
    exact ⟨a, false, xs, rfl, SqP.sq ha, fun ι' g' H' s _ => ⟨xs, SqP.sq (s.rol _ _ ha), s.denAll hxs⟩⟩
  | @obj a n hn =>
    cases e1 : rdL g n with
    | none => simp [seqChk, e1] at h
    | some es =>
      simp [seqChk, e1] at h
      obtain ⟨rfl, rfl⟩ := h
      obtain ⟨xs, hx, hxs⟩ := r.rdL e1 hn
      refine ⟨a, false, xs, rfl, SqL.of hx, fun ι' g' H' s hc => ?_⟩
      obtain ⟨ys, hy, hys⟩ := s.rel.rdL (chkOk_mem hc (List.mem_singleton.mpr rfl)) (s.ix _ _ hn)
      exact ⟨ys, SqL.of hy, hys⟩
  | _ => cases h
theorem seqS_inj {b : Bool} {H : Hp} {a : Addr} {xs ys : List V} (f : ∀ xs ys, SqB b K H a xs → SqB b K H a ys → xs = ys) (h : SqB b K H a xs) (h' : SqB b K H a ys) : xs = ys := f _ _ h h'
theorem jok_enum {ι0 : List Addr} {H0 : Hp} {b : Bool} {a : Addr} {ds : List D} {c : Chk} (q : SeqS mg K b a ds c ι0 H0) : JOk mg K (IteB b K a) (enumD 0 ds) c ι0 H0 := fun i ι g H s hc => by
  obtain ⟨xs, hx, hxs⟩ := q ι g H s hc
  refine ⟨fun d hd => ?_, fun hl => ⟨xs, hx, by rw [hxs.length, hl, enumD_len]⟩⟩
  rw [enumD_get] at hd
  cases e : ds[i]? with
  | none => rw [e] at hd; cases hd
  | some d0 =>
    rw [e] at hd
    simp at hd
    subst hd
    obtain ⟨v, hv, hvd⟩ := hxs.get e
    refine ⟨⟨xs, v, hx, hv⟩, fun x H' y => ?_⟩
    obtain ⟨T, w, rfl, hT, rfl, y⟩ := y
    have := y xs hx
    rw [hv] at this
    cases this
    have s1 : Step mg K ι H ι g (upd H T (.tup [.int (i : Nat), v])) := Step.side s.rel hT
    exact ⟨s1, .tup (TpT.of upd_same) (.cons (.int _) (.cons (s1.den hvd) .nil))⟩
theorem jok_zip {ι0 : List Addr} {H0 : Hp} {b b' : Bool} {a a' : Addr} {ds es : List D} {c c' : Chk} (q : SeqS mg K b a ds c ι0 H0) (q' : SeqS mg K b' a' es c' ι0 H0) : JOk mg K (ItzB b b' K a a') (zipD ds es) (c ++ c') ι0 H0 := fun i ι g H s hc => by
  rw [chkOk_app, Bool.and_eq_true] at hc
  obtain ⟨xs, hx, hxs⟩ := q ι g H s hc.1
  obtain ⟨ys, hy, hys⟩ := q' ι g H s hc.2
  have l1 := hxs.length
  have l2 := hys.length
  refine ⟨fun d hd => ?_, fun hl => ?_⟩
  · rw [zipD_get] at hd
    cases e : ds[i]? with
    | none => rw [e] at hd; cases hd
    | some d0 =>
      cases e' : es[i]? with
      | none => rw [e, e'] at hd; cases hd
      | some e0 =>
        rw [e, e'] at hd
        simp at hd
        subst hd
        obtain ⟨v, hv, hvd⟩ := hxs.get e
        obtain ⟨w, hw, hwd⟩ := hys.get e'
        refine ⟨⟨xs, ys, v, w, hx, hy, hv, hw⟩, fun x H' y => ?_⟩
        obtain ⟨T, v', w', rfl, hT, rfl, y1, y2⟩ := y
        have t1 := y1 xs hx
        have t2 := y2 ys hy
        rw [hv] at t1
        rw [hw] at t2
        cases t1
        cases t2
        have s1 : Step mg K ι H ι g (upd H T (.tup [v, w])) := Step.side s.rel hT
        exact ⟨s1, .tup (TpT.of upd_same) (.cons (s1.den hvd) (.cons (s1.den hwd) .nil))⟩
  · rw [zipD_len] at hl
    exact ⟨xs, ys, hx, hy, by omega, by omega, by omega⟩
/-! ### dicts -/
theorem jok_keys {ι0 : List Addr} {H0 : Hp} {d : Addr} {o : Obj} {kvs : List (D × D)} {ps : List (Key × V)} (hd : H0 d = some (.frz o (.dK ps))) (pr : Paired (fun (p : Key × V) (q : D × D) => q.1 = kD p.1 ∧ Den K ι0 H0 p.2 q.2) ps kvs) : JOk mg K (Itk d o ps) (kvs.map (·.1)) [] ι0 H0 := fun i ι g H s _ => by
  have hH := s.frz _ _ _ hd
  have ln := paired_len pr
  refine ⟨fun x hx => ?_, fun hl => ⟨hH, by simp at hl; omega⟩⟩
  rw [List.getElem?_map] at hx
  cases e : kvs[i]? with
  | none => rw [e] at hx; cases hx
  | some q =>
    rw [e] at hx
    cases hx
    have hi : i < ps.length := by rw [ln]; exact (List.getElem?_eq_some_iff.mp e).1
    obtain ⟨b, hb, eb, _⟩ := L2.paired_get pr (List.getElem?_eq_getElem hi)
    rw [e] at hb; cases hb
    refine ⟨⟨hH, hi⟩, fun x H' y => ?_⟩
    obtain ⟨rfl, k, v, hk, rfl⟩ := y
    rw [List.getElem?_eq_getElem hi] at hk
    have hk := Option.some.inj hk
    refine ⟨Step.refl s.rel, ?_⟩
    show Den K ι H' (kV k) q.1
    rw [eb, hk]
    exact key_den k
theorem jok_keysT {ι0 : List Addr} {H0 : Hp} {d : Addr} {o : Obj} {kvs : List (D × D)} {ps : List (List Key × V)} (hd : H0 d = some (.frz o (.dT ps))) (pr : Paired (fun (p : List Key × V) (q : D × D) => q.1 = .tup (p.1.map kD) ∧ Den K ι0 H0 p.2 q.2) ps kvs) : JOk mg K (Itkt d o ps) (kvs.map (·.1)) [] ι0 H0 := fun i ι g H s _ => by
  have hH := s.frz _ _ _ hd
  have ln := paired_len pr
  refine ⟨fun x hx => ?_, fun hl => ⟨hH, by simp at hl; omega⟩⟩
  rw [List.getElem?_map] at hx
  cases e : kvs[i]? with
  | none => rw [e] at hx; cases hx
  | some q =>
    rw [e] at hx
    cases hx
    have hi : i < ps.length := by rw [ln]; exact (List.getElem?_eq_some_iff.mp e).1
    obtain ⟨b, hb, eb, _⟩ := L2.paired_get pr (List.getElem?_eq_getElem hi)
    rw [e] at hb; cases hb
    refine ⟨⟨hH, hi⟩, fun x H' y => ?_⟩
    obtain ⟨rfl, k, v, q', hk, rfl, hq⟩ := y
    rw [List.getElem?_eq_getElem hi] at hk
    have hk := Option.some.inj hk
    refine ⟨Step.refl s.rel, ?_⟩
    show Den K ι H' (.ref q') q.1
    rw [eb, hk]
    exact .tup (TpT.of hq) (keys_den k)
theorem jok_vals {ι0 : List Addr} {H0 : Hp} {d : Addr} {o : Obj} {kvs : List (D × D)} {ps : List (Key × V)} (hd : H0 d = some (.frz o (.dK ps))) (pr : Paired (fun (p : Key × V) (q : D × D) => q.1 = kD p.1 ∧ Den K ι0 H0 p.2 q.2) ps kvs) : JOk mg K (Itd d o ps) (kvs.map (·.2)) [] ι0 H0 := fun i ι g H s _ => by
  have hH := s.frz _ _ _ hd
  have ln := paired_len pr
  refine ⟨fun x hx => ?_, fun hl => ⟨hH, by simp at hl; omega⟩⟩
  rw [List.getElem?_map] at hx
  cases e : kvs[i]? with
  | none => rw [e] at hx; cases hx
  | some q =>
    rw [e] at hx
    cases hx
    have hi : i < ps.length := by rw [ln]; exact (List.getElem?_eq_some_iff.mp e).1
    obtain ⟨b, hb, _, hv⟩ := L2.paired_get pr (List.getElem?_eq_getElem hi)
    rw [e] at hb; cases hb
    refine ⟨⟨hH, hi⟩, fun x H' y => ?_⟩
    obtain ⟨rfl, k, hk⟩ := y
    rw [List.getElem?_eq_getElem hi] at hk
    have hk := Option.some.inj hk
    rw [hk] at hv
    exact ⟨Step.refl s.rel, s.den hv⟩
theorem jok_items {ι0 : List Addr} {H0 : Hp} {d : Addr} {o : Obj} {kvs : List (D × D)} {ps : List (Key × V)} (hd : H0 d = some (.frz o (.dK ps))) (pr : Paired (fun (p : Key × V) (q : D × D) => q.1 = kD p.1 ∧ Den K ι0 H0 p.2 q.2) ps kvs) : JOk mg K (Iti d o ps) (kvs.map fun p => .tup [p.1, p.2]) [] ι0 H0 := fun i ι g H s _ => by
  have hH := s.frz _ _ _ hd
  have ln := paired_len pr
  refine ⟨fun x hx => ?_, fun hl => ⟨hH, by simp at hl; omega⟩⟩
  rw [List.getElem?_map] at hx
  cases e : kvs[i]? with
  | none => rw [e] at hx; cases hx
  | some q =>
    rw [e] at hx
    cases hx
    have hi : i < ps.length := by rw [ln]; exact (List.getElem?_eq_some_iff.mp e).1
    obtain ⟨b, hb, eb, hv⟩ := L2.paired_get pr (List.getElem?_eq_getElem hi)
    rw [e] at hb; cases hb
    refine ⟨⟨hH, hi⟩, fun x H' y => ?_⟩
    obtain ⟨T, k, v, hk, rfl, hT, rfl⟩ := y
    rw [List.getElem?_eq_getElem hi] at hk
    have hk := Option.some.inj hk
    rw [hk] at hv eb
    have s1 : Step mg K ι H ι g (upd H T (.tup [kV k, v])) := Step.side s.rel hT
    refine ⟨s1, ?_⟩
    show Den K ι _ (.ref T) (.tup [q.1, q.2])
    rw [eb]
    exact .tup (TpT.of upd_same) (.cons (key_den k) (.cons (s1.den (s.den hv)) .nil))
theorem jok_itemsT {ι0 : List Addr} {H0 : Hp} {d : Addr} {o : Obj} {kvs : List (D × D)} {ps : List (List Key × V)} (hd : H0 d = some (.frz o (.dT ps))) (pr : Paired (fun (p : List Key × V) (q : D × D) => q.1 = .tup (p.1.map kD) ∧ Den K ι0 H0 p.2 q.2) ps kvs) : JOk mg K (ItiT d o ps) (kvs.map fun p => .tup [p.1, p.2]) [] ι0 H0 := fun i ι g H s _ => by
  have hH := s.frz _ _ _ hd
  have ln := paired_len pr
  refine ⟨fun x hx => ?_, fun hl => ⟨hH, by simp at hl; omega⟩⟩
  rw [List.getElem?_map] at hx
  cases e : kvs[i]? with
  | none => rw [e] at hx; cases hx
  | some q =>
    rw [e] at hx
    cases hx
    have hi : i < ps.length := by rw [ln]; exact (List.getElem?_eq_some_iff.mp e).1
    obtain ⟨b, hb, eb, hv⟩ := L2.paired_get pr (List.getElem?_eq_getElem hi)
    rw [e] at hb; cases hb
    refine ⟨⟨hH, hi⟩, fun x H' y => ?_⟩
    obtain ⟨T, q', k, v, hk, rfl, hT, hq, rfl⟩ := y
    rw [List.getElem?_eq_getElem hi] at hk
    have hk := Option.some.inj hk
    rw [hk] at hv eb
    have s1 : Step mg K ι H ι g (upd H T (.tup [.ref q', v])) := Step.side s.rel hT
    refine ⟨s1, ?_⟩
    show Den K ι _ (.ref T) (.tup [q.1, q.2])
    rw [eb]
    refine .tup (TpT.of upd_same) (.cons (.tup (s1.tup _ _ (TpT.of hq)) (keys_den k)) (.cons (s1.den (s.den hv)) .nil))
end
/-- a locked dict's pairs -/
def frzOf (d : D) (g : GH) : Option (Bool × List (D × D)) := match d with
  | .obj n => match g[n]? with
    | some (.frz (.dct t kvs)) => some (t, kvs)
    | _ => none
  | _ => none
def mItK (m : EM) : IM := fun ρ g => (m ρ g).bind fun d g1 => match frzOf d g1 with
  | some (_, kvs) => .ok (kvs.map (·.1), []) g1
  | none => .bad
def mItV (m : EM) : IM := fun ρ g => (m ρ g).bind fun d g1 => match frzOf d g1 with
  | some (false, kvs) => .ok (kvs.map (·.2), []) g1
  | _ => .bad
def mItI (m : EM) : IM := fun ρ g => (m ρ g).bind fun d g1 => match frzOf d g1 with
  | some (_, kvs) => .ok (kvs.map fun p => .tup [p.1, p.2], []) g1
  | none => .bad
section
variable {mg : Str → Option Value} {K : PySem.W.Frag} {ι : List Addr} {g : GH} {H : Hp}
theorem frz_of (r : Rel mg K ι g H) {d : D} {t : Bool} {kvs : List (D × D)} {v : V} (h : frzOf d g = some (t, kvs)) (hv : Den K ι H v d) : ∃ a ob u, v = .ref a ∧ H a = some (.frz ob u) ∧ DctR K ι H u t kvs := by
  cases hv with
  | @obj a n hn =>
    unfold frzOf at h
    cases e : g[n]? with
    | none => simp only [e] at h; cases h
    | some o =>
      cases o with
      | frz o =>
        cases o with
        | dct t' kvs' =>
          simp only [e] at h
          cases h
          obtain ⟨ob, u, h1, h2⟩ := r.at_ n _ a e hn
          exact ⟨a, ob, u, rfl, h1, h2⟩
        | _ => simp only [e] at h; cases h
      | _ => simp only [e] at h; cases h
  | _ => cases h
end
section
variable {X : Cx} {W : WX} {tg e e2 : Expr} {m m2 : EM} {p pos apos cpos tpos : Pos} {elts : List Expr} {kk : Nat}
theorem si_enum (hm : X.mg "enumerate" = none) (ha : SE X W e m) (hg : Gl X "enumerate" := by rfl) (hs : starEach [e] X.env = [(false, eval e X.env)] := by rfl) : SI X W (.Tuple elts kk tpos) (.Call (.Name "enumerate" p) [e] [] pos) (mItE m) :=
  ⟨PI.imp (pi_enumB hg hm (pa_cons ha.pe pa_nil hs) hs) fun σ H Q ⟨ι, g, ρ, r, hρ, q⟩ => by
    refine ⟨ι, g, ρ, r, hρ, RunX.mono (RunI.bind (Dn := fun ι H v d => Den X.K ι H v d) q) fun v H1 ⟨ι1, g1, d, s1, hd, h1⟩ => ?_⟩
    cases e1 : seqChk d g1 with
    | none => simp only [e1] at h1; exact h1.elim
    | some pc =>
      obtain ⟨ds, c⟩ := pc
      simp only [e1] at h1
      obtain ⟨a, b, xs, rfl, hq, hS⟩ := seqS_of s1.rel e1 hd
      exact ⟨b, a, xs, rfl, hq, h1 ι1 H1 _ (Step.refl s1.rel) (jok_enum hS)⟩⟩
theorem si_zip (hm : X.mg "zip" = none) (ha : SE X W e m) (hb : SE X W e2 m2) (hg : Gl X "zip" := by rfl) (hs : starEach [e, e2] X.env = (false, eval e X.env) :: starEach [e2] X.env := by rfl) (hs2 : starEach [e2] X.env = [(false, eval e2 X.env)] := by rfl)
    (hpl : (backTo pos (starEach [e2] X.env)).any (·.1) = false := by rfl) : SI X W (.Tuple elts kk tpos) (.Call (.Name "zip" p) [e, e2] [] pos) (mItZ m m2) :=
  ⟨PI.imp (pi_zipB hg hm (pa_cons ha.pe (pa_cons hb.pe pa_nil hs2) hs) hs hpl) fun σ H Q ⟨ι, g, ρ, r, hρ, q⟩ => by
    refine ⟨ι, g, ρ, r, hρ, RunX.mono (RunI.bind (Dn := fun ι H v d => Den X.K ι H v d) q) fun v H1 ⟨ι1, g1, d, s1, hd, h1⟩ => ?_⟩
    refine ⟨ι1, g1, ρ, s1.rel, hρ.step s1, RunX.mono (RunI.bind (Dn := fun ι H v d => Den X.K ι H v d) h1) fun u H2 ⟨ι2, g2, d2, s2, hd2, h2⟩ => ?_⟩
    cases e1 : seqChk d g2 with
    | none => simp only [e1] at h2; exact h2.elim
    | some pc =>
      obtain ⟨ds, c⟩ := pc
      cases e2 : seqChk d2 g2 with
      | none => simp only [e1, e2] at h2; exact h2.elim
      | some pc' =>
        obtain ⟨es, c'⟩ := pc'
        simp only [e1, e2] at h2
        obtain ⟨a, b, xs, rfl, hq, hS⟩ := seqS_of s2.rel e1 (s2.den hd)
        obtain ⟨a', b', ys, rfl, hq', hS'⟩ := seqS_of s2.rel e2 hd2
        exact ⟨b, b', a, a', xs, ys, rfl, hq, hq', h2 ι2 H2 _ (Step.refl s2.rel) (jok_zip hS hS')⟩⟩
theorem si_keys (ha : SE X W e m) : SI X W tg e (mItK m) := ⟨PI.imp (pi_keys ha.pe) fun σ H Q ⟨ι, g, ρ, r, hρ, q⟩ => by
  refine ⟨ι, g, ρ, r, hρ, RunX.mono (RunI.bind (Dn := fun ι H v d => Den X.K ι H v d) q) fun v H1 ⟨ι1, g1, d, s1, hd, h1⟩ => ?_⟩
  cases e1 : frzOf d g1 with
  | none => simp only [e1] at h1; exact h1.elim
  | some pc =>
    obtain ⟨t, kvs⟩ := pc
    simp only [e1] at h1
    obtain ⟨a, ob, u, rfl, hH, dc⟩ := frz_of s1.rel e1 hd
    rcases dc with ⟨rfl, ps, rfl, pr⟩ | ⟨rfl, ps, rfl, pr⟩
    · exact ⟨a, ob, rfl, .inl ⟨ps, hH, h1 ι1 H1 _ (Step.refl s1.rel) (jok_keys hH pr)⟩⟩
    · exact ⟨a, ob, rfl, .inr ⟨ps, hH, h1 ι1 H1 _ (Step.refl s1.rel) (jok_keysT hH pr)⟩⟩⟩
theorem si_vals (ha : SE X W e m) (hbase : attributeBase e "values" X.env (eval e X.env) = eval e X.env := by rfl) (hline : (apos.endLine == cpos.line) = true := by rfl) : SI X W tg (.Call (.Attribute e "values" apos) [] [] cpos) (mItV m) :=
  ⟨PI.imp (pi_values ha.pe hbase hline) fun σ H Q ⟨ι, g, ρ, r, hρ, q⟩ => by
  refine ⟨ι, g, ρ, r, hρ, RunX.mono (RunI.bind (Dn := fun ι H v d => Den X.K ι H v d) q) fun v H1 ⟨ι1, g1, d, s1, hd, h1⟩ => ?_⟩
  cases e1 : frzOf d g1 with
  | none => simp only [e1] at h1; exact h1.elim
  | some pc =>
    obtain ⟨t, kvs⟩ := pc
    simp only [e1] at h1
    obtain ⟨a, ob, u, rfl, hH, dc⟩ := frz_of s1.rel e1 hd
    rcases dc with ⟨rfl, ps, rfl, pr⟩ | ⟨rfl, ps, rfl, pr⟩
    · exact ⟨a, ob, ps, rfl, hH, h1 ι1 H1 _ (Step.refl s1.rel) (jok_vals hH pr)⟩
    · exact h1.elim⟩
theorem si_items (ha : SE X W e m) (hbase : attributeBase e "items" X.env (eval e X.env) = eval e X.env := by rfl) (hline : (apos.endLine == cpos.line) = true := by rfl) : SI X W (.Tuple elts kk tpos) (.Call (.Attribute e "items" apos) [] [] cpos) (mItI m) :=
  ⟨PI.imp (pi_itemsA ha.pe hbase hline) fun σ H Q ⟨ι, g, ρ, r, hρ, q⟩ => by
  refine ⟨ι, g, ρ, r, hρ, RunX.mono (RunI.bind (Dn := fun ι H v d => Den X.K ι H v d) q) fun v H1 ⟨ι1, g1, d, s1, hd, h1⟩ => ?_⟩
  cases e1 : frzOf d g1 with
  | none => simp only [e1] at h1; exact h1.elim
  | some pc =>
    obtain ⟨t, kvs⟩ := pc
    simp only [e1] at h1
    obtain ⟨a, ob, u, rfl, hH, dc⟩ := frz_of s1.rel e1 hd
    rcases dc with ⟨rfl, ps, rfl, pr⟩ | ⟨rfl, ps, rfl, pr⟩
    · exact ⟨a, ob, rfl, .inl ⟨ps, hH, h1 ι1 H1 _ (Step.refl s1.rel) (jok_items hH pr)⟩⟩
    · exact ⟨a, ob, rfl, .inr ⟨ps, hH, h1 ι1 H1 _ (Step.refl s1.rel) (jok_itemsT hH pr)⟩⟩⟩
end

/-! ### locks -/
def lkOf (m : EM) (ρ : Rho) (g : GH) : Option (Nat × Bool × List (D × D)) := match m ρ g with
  | .ok (.obj n) _ => match g[n]? with
    | some (.dct t kvs) => some (n, t, kvs)
    | _ => none
  | _ => none
def unlk (n : Nat) (g : GH) : Option GH := match g[n]? with
  | some (.frz (.dct t kvs)) => some (g.set n (.dct t kvs))
  | _ => none
/-- a statement that runs while a dict is locked -/
def sLock (m : EM) (b : SM) : SM := fun ρ g => match lkOf m ρ g with
  | some (n, t, kvs) => match b ρ (g.set n (.frz (.dct t kvs))) with
    | .ok f g1 => match unlk n g1 with
      | some g2 => .ok f g2
      | none => .bad
    | r => r
  | none => .bad
def mLock (m : EM) (b : EM) : EM := fun ρ g => match lkOf m ρ g with
  | some (n, t, kvs) => match b ρ (g.set n (.frz (.dct t kvs))) with
    | .ok d g1 => match unlk n g1 with
      | some g2 => .ok d g2
      | none => .bad
    | r => r
  | none => .bad
section
variable {mg : Str → Option Value} {K : PySem.W.Frag} {ι ι' : List Addr} {g g' : GH} {H H' : Hp} {n : Nat} {a : Addr} {t : Bool} {kvs : List (D × D)} {u : HO}
theorem lock_step (r : Rel mg K ι g H) (hn : ι[n]? = some a) (hu : H a = some u) (dc : DctR K ι H u t kvs) (od : Obj) : Step mg K ι H ι (g.set n (.frz (.dct t kvs))) (upd H a (.frz od u)) :=
  Step.write r hn (fun H' hT hP hH => ⟨od, u, hH, dc.mono (fun _ _ h => h) hT hP⟩) fun ob x z => by
    rw [hu] at z
    rcases dc with ⟨_, ps, rfl, _⟩ | ⟨_, ps, rfl, _⟩ <;> cases z
theorem unlock_step {od : Obj} {g2 : GH} (r : Rel mg K ι g H) (hn : ι[n]? = some a) (hu : H a = some u) (dc : DctR K ι H u t kvs) (s : Step mg K ι (upd H a (.frz od u)) ι' g' H') (hg : unlk n g' = some g2) :
    Step mg K ι H ι' g2 (upd H' a u) ∧ (∀ v d, Den K ι' H' v d → Den K ι' (upd H' a u) v d) := by
  have s1 := lock_step r hn hu dc od
  have dk : (∃ ps, u = .dK ps) ∨ ∃ ps, u = .dT ps := by
    rcases dc with ⟨_, ps, e, _⟩ | ⟨_, ps, e, _⟩
    · exact .inl ⟨ps, e⟩
    · exact .inr ⟨ps, e⟩
  have ha := s.frz a od u upd_same
  have hn' := s.ix _ _ hn
  have nT : ∀ b xs, H' b = some (.tup xs) → b ≠ a := fun b xs e z => by rw [z, ha] at e; cases e
  have nF : ∀ b o xs, H' b = some (.frz o (.tup xs)) → b ≠ a := fun b o xs e z => by
    rw [z, ha] at e
    rcases dk with ⟨ps, rfl⟩ | ⟨ps, rfl⟩ <;> cases e
  have nL : ∀ b o xs, H' b = some (.frz o (.lst xs)) → b ≠ a := fun b o xs e z => by
    rw [z, ha] at e
    rcases dk with ⟨ps, rfl⟩ | ⟨ps, rfl⟩ <;> cases e
  have hT : ∀ b xs, TpT K H' b xs → TpT K (upd H' a u) b xs := fun b xs q => by
    refine ⟨?_, fun ne => by rw [upd_ne (nT _ _ (q.2 ne))]; exact q.2 ne⟩
    rcases q.1 with (q' | ⟨o, q'⟩) | q'
    · exact .inl (.inl (by rw [upd_ne (nT _ _ q')]; exact q'))
    · exact .inl (.inr ⟨o, by rw [upd_ne (nF _ _ _ q')]; exact q'⟩)
    · exact .inr q'
  have hP : ∀ b xs, SqP K H' b xs → SqP K (upd H' a u) b xs := fun b xs q => by
    rcases q with ⟨o, q', ai⟩ | q'
    · exact .inl ⟨o, by rw [upd_ne (nL _ _ _ q')]; exact q', ai⟩
    · exact .inr q'
  have hm : a ∈ ι := List.mem_of_getElem? hn
  unfold unlk at hg
  cases e : g'[n]? with
  | none => rw [e] at hg; cases hg
  | some o =>
    cases o with
    | frz o =>
      cases o with
      | dct t' kvs' =>
        rw [e] at hg
        simp only [Option.some.injEq] at hg
        subst hg
        refine ⟨⟨s.pre, ⟨by simp [s.rel.len], s.rel.nd, fun m o b h k => ?_⟩, fun b o e1 e2 => ?_, fun b e1 e2 => ?_, fun b xs q => hT _ _ (s.tup _ _ (s1.tup _ _ q)), fun b xs q => hP _ _ (s.rol _ _ (s1.rol _ _ q)), fun b o x q => ?_⟩, fun v d q => Den.mono (fun _ _ h => h) hT hP _ _ q⟩
        · by_cases hmn : m = n
          · subst hmn
            rw [hn'] at k; cases k
            have hlt : m < g'.length := (List.getElem?_eq_some_iff.mp e).1
            rw [List.getElem?_set_self hlt] at h
            cases h
            obtain ⟨ob, u', h1, h2⟩ := s.rel.at_ m _ a e hn'
            rw [ha] at h1
            cases h1
            exact ⟨u, upd_same, h2.mono (fun _ _ h => h) hT hP⟩
          · rw [List.getElem?_set_ne (Ne.symm hmn)] at h
            refine (s.rel.at_ m o b h k).mono (fun _ _ h => h) hT hP fun w hw => ?_
            rw [upd_ne fun z => ?_]
            · exact hw
            · subst z
              obtain ⟨l1, q1⟩ := List.getElem?_eq_some_iff.mp k
              obtain ⟨l2, q2⟩ := List.getElem?_eq_some_iff.mp hn'
              exact hmn (nodup_at s.rel.nd l1 l2 (by rw [q1, q2]))
        · have ne : b ≠ a := fun z => e2 (by rw [z]; exact hm)
          rw [upd_ne ne]
          exact s.frm b o (by rw [upd_ne ne]; exact e1) e2
        · have ne : b ≠ a := fun z => e2 (by rw [z]; exact hm)
          have := s.new b e1 e2
          rw [upd_ne ne] at this
          exact this
        · have ne : b ≠ a := fun z => by
            rw [z, hu] at q
            rcases dk with ⟨ps, rfl⟩ | ⟨ps, rfl⟩ <;> cases q
          rw [upd_ne ne]
          exact s.frz b o x (by rw [upd_ne ne]; exact q)
      | _ => rw [e] at hg; cases hg
    | _ => rw [e] at hg; cases hg
theorem lk_of {m : EM} {ρ : Rho} (r : Rel mg K ι g H) (h : lkOf m ρ g = some (n, t, kvs)) : ∃ a u, ι[n]? = some a ∧ H a = some u ∧ DctR K ι H u t kvs ∧ Mut (some u) := by
  unfold lkOf at h
  cases e : m ρ g with
  | ok d g1 =>
    cases d with
    | obj k =>
      simp only [e] at h
      cases e1 : g[k]? with
      | none => simp only [e1] at h; cases h
      | some o =>
        cases o with
        | dct t' kvs' =>
          simp only [e1] at h
          cases h
          obtain ⟨a, ha, u, hu, dc⟩ := r.place e1
          refine ⟨a, u, ha, hu, dc, ?_⟩
          rcases dc with ⟨_, ps, rfl, _⟩ | ⟨_, ps, rfl, _⟩ <;> trivial
        | _ => simp only [e1] at h; cases h
    | _ => simp only [e] at h; cases h
  | ex _ _ _ => simp only [e] at h; cases h
  | bad => simp only [e] at h; cases h
end
section
variable {X : Cx} {W : WX} {st : Stmt} {e : Expr} {m : EM} {b : SM} {me : EM}
theorem ss_lock (h : SS X W st b) (m : EM) : SS X W st (sLock m b) := ⟨PS.imp (ps_lock h.ps) fun D σ H ⟨ι, g, ρ, r, hρ, q⟩ => by
  unfold sLock at q
  cases el : lkOf m ρ g with
  | none => simp only [el] at q; exact q.elim
  | some p =>
    obtain ⟨n, t, kvs⟩ := p
    simp only [el] at q
    obtain ⟨a, u, hn, hu, dc, mu⟩ := lk_of r el
    refine ⟨a, u, hu, mu, fun od => ?_⟩
    have s1 := lock_step r hn hu dc od
    refine ⟨ι, _, ρ, s1.rel, hρ.step s1, ?_⟩
    cases eb : b ρ (g.set n (.frz (.dct t kvs))) with
    | bad => simp only [eb] at q; exact q
    | ex c fs ρ1 g1 => simp only [eb] at q; exact fun ι2 H2 σ2 cls dx s2 e2 x => q ι2 H2 σ2 cls dx (s1.trans s2) e2 x
    | ok f g1 =>
      simp only [eb] at q
      cases eu : unlk n g1 with
      | none => simp only [eu] at q; exact q.elim
      | some g2 =>
        simp only [eu] at q
        have env : ∀ ι2 H2 σ2 ρ2, Step X.mg X.K ι (upd H a (.frz od u)) ι2 g1 H2 → EnvR X.K ι2 H2 σ2 ρ2 → EnvR X.K ι2 (upd H2 a u) σ2 ρ2 := fun ι2 H2 σ2 ρ2 s2 e2 => ⟨e2.1, fun i d hd => by
          obtain ⟨v, hv, hd⟩ := e2.2 i d hd
          exact ⟨v, hv, (unlock_step r hn hu dc s2 eu).2 _ _ hd⟩⟩
        cases f with
        | nx ρ1 => exact fun ι2 H2 σ2 s2 e2 => ⟨s2.frz _ _ _ upd_same, q ι2 _ σ2 (unlock_step r hn hu dc s2 eu).1 (env _ _ _ _ s2 e2)⟩
        | rt d => exact fun ι2 H2 v s2 hv => ⟨s2.frz _ _ _ upd_same, q ι2 _ v (unlock_step r hn hu dc s2 eu).1 ((unlock_step r hn hu dc s2 eu).2 _ _ hv)⟩
        | bk ρ1 => exact fun ι2 H2 σ2 s2 e2 => ⟨s2.frz _ _ _ upd_same, q ι2 _ σ2 (unlock_step r hn hu dc s2 eu).1 (env _ _ _ _ s2 e2)⟩
        | ct ρ1 => exact fun ι2 H2 σ2 s2 e2 => ⟨s2.frz _ _ _ upd_same, q ι2 _ σ2 (unlock_step r hn hu dc s2 eu).1 (env _ _ _ _ s2 e2)⟩⟩
theorem se_lock (h : SE X W e me) (m : EM) : SE X W e (mLock m me) := ⟨PE.imp (pe_lock h.pe) fun σ H Q ⟨ι, g, ρ, r, hρ, q⟩ => by
  unfold mLock at q
  cases el : lkOf m ρ g with
  | none => simp only [el] at q; exact q.elim
  | some p =>
    obtain ⟨n, t, kvs⟩ := p
    simp only [el] at q
    obtain ⟨a, u, hn, hu, dc, mu⟩ := lk_of r el
    refine ⟨a, u, hu, mu, fun od => ?_⟩
    have s1 := lock_step r hn hu dc od
    refine ⟨ι, _, ρ, s1.rel, hρ.step s1, ?_⟩
    cases eb : me ρ (g.set n (.frz (.dct t kvs))) with
    | bad => simp only [eb] at q; exact q
    | ex c fs g1 => simp only [eb] at q; exact fun ι2 H2 cls dx s2 x => q ι2 H2 cls dx (s1.trans s2) x
    | ok d g1 =>
      simp only [eb] at q
      cases eu : unlk n g1 with
      | none => simp only [eu] at q; exact q.elim
      | some g2 =>
        simp only [eu] at q
        exact fun ι2 H2 v s2 hv => ⟨s2.frz _ _ _ upd_same, q ι2 _ v (unlock_step r hn hu dc s2 eu).1 ((unlock_step r hn hu dc s2 eu).2 _ _ hv)⟩⟩
end
end L3

/-! L3L: min, max, sorted by data. -/
namespace L3
open PySem PySem.Spec L2
open PySem.W (dataLt alike AllAlike AlikeAll Sortable dataLe EachIs minD maxD)

/-! ### data as they are ordered -/
def dLt (a b : D) : Bool := dataLt a.py b.py
def dLe (a b : D) : Bool := !dLt b a
def dIns (a : D) : List D → List D
  | [] => [a]
  | b :: r => if dLe a b then a :: b :: r else b :: dIns a r
def dSort : List D → List D
  | [] => []
  | a :: r => dIns a (dSort r)
def isTupNE : D → Bool
  | .tup (_ :: _) => true
  | _ => false
def isAtom : D → Bool
  | .int _ => true
  | .str _ => true
  | .bl _ => true
  | .rol _ => true
  | _ => false
def alkOk (es : List D) : Bool := es.all (D.fit 16) && es.all fun d => es.all fun e => alike d.py e.py
def srtOk (es : List D) : Bool := alkOk es && (es.all isTupNE || es.all isAtom) && decide (es.length ≤ sizeLine)

theorem D.pys_map : ∀ es : List D, D.pys es = es.map D.py
  | [] => rfl
  | e :: es => by simp [D.pys, D.pys_map es]
mutual
theorem py_inj : ∀ (k : Nat) (a b : D), D.fit k a = true → D.fit k b = true → alike a.py b.py = true → PyData.eqv a.py b.py = true → a = b
  | k, .non, b, _, hb, h, _ => by
    cases b <;> simp [D.py, alike] at h
    · rfl
    · cases k <;> simp [D.fit] at hb
  | k, .bl x, b, _, _, h, e => by
    cases b <;> simp [D.py, alike] at h
    simp [D.py, PyData.eqv] at e; rw [e]
  | k, .int x, b, _, _, h, e => by
    cases b <;> simp [D.py, alike] at h
    simp [D.py, PyData.eqv] at e; rw [e]
  | k, .str x, b, _, _, h, e => by
    cases b <;> simp [D.py, alike] at h
    simp [D.py, PyData.eqv] at e; rw [e]
  | k, .obj n, b, ha, _, _, _ => by cases k <;> simp [D.fit] at ha
  | 0, .tup xs, b, ha, _, _, _ => by simp [D.fit] at ha
  | 0, .rol xs, b, ha, _, _, _ => by simp [D.fit] at ha
  | k + 1, .tup xs, b, ha, hb, h, e => by
    cases b <;> simp [D.py, alike] at h
    rename_i ys
    simp only [D.py, PyData.eqv] at e
    rw [pys_inj k xs ys (by simpa [D.fit] using ha) (by simpa [D.fit] using hb) h e]
  | k + 1, .rol xs, b, ha, hb, h, e => by
    cases b <;> simp [D.py, alike] at h
    rename_i ys
    simp only [D.py, PyData.eqv] at e
    rw [pys_inj k xs ys (by simpa [D.fit] using ha) (by simpa [D.fit] using hb) h e]
theorem pys_inj : ∀ (k : Nat) (as bs : List D), (∀ a ∈ as, D.fit k a = true) → (∀ b ∈ bs, D.fit k b = true) → PySem.W.alikeAll (D.pys as) (D.pys bs) = true → PyData.eqvAll (D.pys as) (D.pys bs) = true → as = bs
  | _, [], [], _, _, _, _ => rfl
  | _, [], _ :: _, _, _, _, e => by simp [D.pys, PyData.eqvAll] at e
  | _, _ :: _, [], _, _, _, e => by simp [D.pys, PyData.eqvAll] at e
  | k, a :: as, b :: bs, ha, hb, h, e => by
    simp only [D.pys] at h e
    have h' := PySem.W.alike_all_cons h
    rw [PySem.W.eqv_all_cons, Bool.and_eq_true] at e
    rw [py_inj k a b (ha a List.mem_cons_self) (hb b List.mem_cons_self) h'.1 e.1, pys_inj k as bs (fun x hx => ha x (List.mem_cons_of_mem _ hx)) (fun x hx => hb x (List.mem_cons_of_mem _ hx)) h'.2 e.2]
end
theorem toks_eq {x y : PyData} (h : alike x y = true) (e : PySem.W.keyToks x = PySem.W.keyToks y) : PyData.eqv x y = true := by
  cases q : PyData.eqv x y with
  | true => rfl
  | false =>
    have t := (PySem.W.toks_eqv x y h).2 q
    have t1 := t [] [.inl 0]
    have t2 := t [] []
    rw [← e] at t1 t2
    rw [PySem.W.lex_pre] at t1
    rw [← t1] at t2
    simp only [List.append_nil] at t2
    rw [PyProof.Rows.lex_irrefl] at t2
    simp [PyProof.Rows.lexLt] at t2
theorem dLe_anti {a b : D} (ha : D.fit 16 a = true) (hb : D.fit 16 b = true) (h : alike a.py b.py = true) (h1 : dLe a b = true) (h2 : dLe b a = true) : a = b := by
  unfold dLe dLt dataLt at h1 h2
  have e := PyProof.Rows.lex_total _ _ (by simpa using h2) (by simpa using h1)
  exact py_inj 16 a b ha hb h (toks_eq h e)
theorem dLe_eq : (dataLe false D.py : D → D → Bool) = dLe := by
  rw [PySem.W.dataLe_eq]; rfl
theorem dLe_total (a b : D) : (dLe a b || dLe b a) = true := by
  rw [← dLe_eq]
  rw [Bool.or_eq_true]
  exact (PySem.W.sortLe_total _ false _).total a b
theorem dLe_trans (a b c : D) (h1 : dLe a b = true) (h2 : dLe b c = true) : dLe a c = true := by
  rw [← dLe_eq] at *
  exact (PySem.W.sortLe_total _ false _).trans a b c h1 h2
theorem dIns_perm (a : D) : ∀ l, (dIns a l).Perm (a :: l)
  | [] => .refl _
  | b :: r => by
    unfold dIns
    by_cases h : dLe a b = true
    · rw [if_pos h]
    · rw [if_neg h]
      exact ((dIns_perm a r).cons b).trans (.swap a b r)
theorem dSort_perm : ∀ l, (dSort l).Perm l
  | [] => .refl _
  | a :: r => (dIns_perm a _).trans ((dSort_perm r).cons a)
theorem dIns_pair (a : D) : ∀ l, l.Pairwise (fun x y => dLe x y = true) → (dIns a l).Pairwise (fun x y => dLe x y = true)
  | [], _ => List.pairwise_singleton _ _
  | b :: r, h => by
    unfold dIns
    by_cases hb : dLe a b = true
    · rw [if_pos hb]
      refine List.pairwise_cons.mpr ⟨fun x hx => ?_, h⟩
      rcases List.mem_cons.mp hx with rfl | hx
      · exact hb
      · exact dLe_trans _ _ _ hb ((List.pairwise_cons.mp h).1 x hx)
    · rw [if_neg hb]
      refine List.pairwise_cons.mpr ⟨fun x hx => ?_, dIns_pair a r (List.pairwise_cons.mp h).2⟩
      rcases List.mem_cons.mp ((dIns_perm a r).mem_iff.mp hx) with rfl | hx
      · have := dLe_total x b
        rw [Bool.or_eq_true] at this
        exact this.resolve_left hb
      · exact (List.pairwise_cons.mp h).1 x hx
theorem dSort_pair : ∀ l, (dSort l).Pairwise (fun x y => dLe x y = true)
  | [] => .nil
  | a :: r => dIns_pair a _ (dSort_pair r)
theorem alkOk_spec {es : List D} (h : alkOk es = true) : (∀ d ∈ es, D.fit 16 d = true) ∧ ∀ d ∈ es, ∀ e ∈ es, alike d.py e.py = true := by
  unfold alkOk at h
  rw [Bool.and_eq_true, List.all_eq_true, List.all_eq_true] at h
  exact ⟨h.1, fun d hd e he => List.all_eq_true.mp (h.2 d hd) e he⟩
theorem merge_eq {es : List D} (h : alkOk es = true) : es.mergeSort (dataLe false D.py) = dSort es := by
  obtain ⟨h1, h2⟩ := alkOk_spec h
  rw [dLe_eq]
  have p1 := List.mergeSort_perm es dLe
  have p2 := dSort_perm es
  refine List.Perm.eq_of_pairwise (le := fun x y => dLe x y = true) (fun a b ha hb q1 q2 => ?_) (List.pairwise_mergeSort (fun a b c => dLe_trans a b c) dLe_total es) (dSort_pair es) (p1.trans p2.symm)
  have ha' := p1.mem_iff.mp ha
  have hb' := p2.mem_iff.mp hb
  exact dLe_anti (h1 a ha') (h1 b hb') (h2 a ha' b hb') q1 q2
/-- the least, the first of them -/
def dMin (x : D) (xs : List D) : D := xs.foldl (fun a y => if dLt y a then y else a) x
def dMax (x : D) (xs : List D) : D := xs.foldl (fun a y => if dLt a y then y else a) x
theorem dMin_py : ∀ (xs : List D) (x : D), minD x.py (xs.map D.py) = (dMin x xs).py
  | [], x => rfl
  | y :: xs, x => by
    show minD (if dataLt y.py x.py = true then y.py else x.py) (xs.map D.py) = (dMin (if dLt y x = true then y else x) xs).py
    unfold dLt
    by_cases h : dataLt y.py x.py = true
    · rw [if_pos h, if_pos h]; exact dMin_py xs y
    · rw [if_neg h, if_neg h]; exact dMin_py xs x
theorem dMax_py : ∀ (xs : List D) (x : D), maxD x.py (xs.map D.py) = (dMax x xs).py
  | [], x => rfl
  | y :: xs, x => by
    show maxD (if dataLt x.py y.py = true then y.py else x.py) (xs.map D.py) = (dMax (if dLt x y = true then y else x) xs).py
    unfold dLt
    by_cases h : dataLt x.py y.py = true
    · rw [if_pos h, if_pos h]; exact dMax_py xs y
    · rw [if_neg h, if_neg h]; exact dMax_py xs x
theorem dMin_mem : ∀ (xs : List D) (x : D), dMin x xs ∈ x :: xs
  | [], x => List.mem_cons_self
  | y :: xs, x => by
    show dMin (if dLt y x = true then y else x) xs ∈ _
    by_cases h : dLt y x = true
    · rw [if_pos h]; exact List.mem_cons_of_mem _ (dMin_mem xs y)
    · rw [if_neg h]
      rcases List.mem_cons.mp (dMin_mem xs x) with e | e
      · rw [e]; exact List.mem_cons_self
      · exact List.mem_cons_of_mem _ (List.mem_cons_of_mem _ e)
theorem dMax_mem : ∀ (xs : List D) (x : D), dMax x xs ∈ x :: xs
  | [], x => List.mem_cons_self
  | y :: xs, x => by
    show dMax (if dLt x y = true then y else x) xs ∈ _
    by_cases h : dLt x y = true
    · rw [if_pos h]; exact List.mem_cons_of_mem _ (dMax_mem xs y)
    · rw [if_neg h]
      rcases List.mem_cons.mp (dMax_mem xs x) with e | e
      · rw [e]; exact List.mem_cons_self
      · exact List.mem_cons_of_mem _ (List.mem_cons_of_mem _ e)

/-! ### data without objects as they lie -/
section
variable {K : PySem.W.Frag} {ι : List Addr} {H : Hp}
mutual
theorem dp_of : ∀ (k : Nat) (d : D) (v : V), D.fit k d = true → Den K ι H v d → Dp K H v d.py
  | _, .non, _, _, q => by cases q; simp only [D.py]; exact .non
  | _, .bl b, _, _, q => by cases q; simp only [D.py]; exact .bl b
  | _, .int b, _, _, q => by cases q; simp only [D.py]; exact .int b
  | _, .str b, _, _, q => by cases q; simp only [D.py]; exact .str b
  | k, .obj n, _, h, _ => by cases k <;> simp [D.fit] at h
  | 0, .tup ds, _, h, _ => by simp [D.fit] at h
  | 0, .rol ds, _, h, _ => by simp [D.fit] at h
  | k + 1, .tup ds, _, h, q => by
    cases q with
    | tup ha hds => simp only [D.py]; exact .tup ha.1 (dps_of k ds _ (by simpa [D.fit] using h) hds)
  | k + 1, .rol ds, _, h, q => by
    cases q with
    | rol ha hds => simp only [D.py]; exact .lst (SqP.sq ha) (dps_of k ds _ (by simpa [D.fit] using h) hds)
theorem dps_of : ∀ (k : Nat) (ds : List D) (vs : List V), (∀ d ∈ ds, D.fit k d = true) → DenAll K ι H vs ds → DpAll K H vs (D.pys ds)
  | _, [], _, _, q => by cases q; exact .nil
  | k, d :: ds, _, h, q => by
    cases q with
    | cons a b => exact .cons (dp_of k d _ (h d List.mem_cons_self) a) (dps_of k ds _ (fun x hx => h x (List.mem_cons_of_mem _ hx)) b)
end
/-- values told by data -/
def RD (K : PySem.W.Frag) (ι : List Addr) (H : Hp) (u : Value) (d : D) : Prop := ∃ x, RelV x u ∧ Den K ι H x d
theorem each_of : ∀ {xs : List V} {us : List Value} {ds : List D}, DenAll K ι H xs ds → Vals xs us → EachIs (RD K ι H) us ds
  | _, _, _, .nil, r => by cases r; exact .nil
  | _, _, _, .cons a b, r => by
    cases r with
    | cons r rr => exact .cons ⟨_, r, a⟩ (each_of b rr)
theorem of_each {us : List Value} {ds : List D} (h : EachIs (RD K ι H) us ds) : ∃ xs, Vals xs us ∧ DenAll K ι H xs ds := by
  induction h with
  | nil => exact ⟨[], .nil, .nil⟩
  | cons a b ih =>
    obtain ⟨x, r, d⟩ := a
    obtain ⟨xs, rr, dd⟩ := ih
    exact ⟨x :: xs, .cons r rr, .cons d dd⟩
theorem each_len {R : Value → D → Prop} {us : List Value} {ds : List D} (h : EachIs R us ds) : us.length = ds.length := by
  induction h with
  | nil => rfl
  | cons _ _ ih => simp [ih]
end
section
variable {X : Cx} {pins : List (Addr × Obj)} {σ : L2.St} {H : Hp} {s : Shared} {ι : List Addr}
theorem each_reads (I : Inv X pins σ H s) : ∀ {xs : List V} {us : List Value} {ds : List D}, (∀ d ∈ ds, D.fit 16 d = true) → DenAll X.K ι H xs ds → Vals xs us → EachIs (fun v (b : D) => ∃ as, Reads s.heap v b.py as) us ds
  | _, _, _, _, .nil, r => by cases r; exact .nil
  | _, _, _, h, .cons a b, r => by
    cases r with
    | cons r rr => exact .cons (Dp.reads I _ _ _ (dp_of 16 _ _ (h _ List.mem_cons_self) a) r) (each_reads I (fun d hd => h d (List.mem_cons_of_mem _ hd)) b rr)
end
theorem alk_map {es : List D} (h : ∀ d ∈ es, ∀ e ∈ es, alike d.py e.py = true) : AllAlike (es.map D.py) := fun d hd d' hd' => by
  obtain ⟨a, ha, rfl⟩ := List.mem_map.mp hd
  obtain ⟨b, hb, rfl⟩ := List.mem_map.mp hd'
  exact h a ha b hb
theorem srt_spec {es : List D} (h : srtOk es = true) : alkOk es = true ∧ Sortable (es.map D.py) ∧ es.length ≤ sizeLine := by
  unfold srtOk at h
  rw [Bool.and_eq_true, Bool.and_eq_true, Bool.or_eq_true] at h
  refine ⟨h.1.1, ?_, of_decide_eq_true h.2⟩
  rcases h.1.2 with q | q
  · refine .inl fun d hd => ?_
    obtain ⟨a, ha, rfl⟩ := List.mem_map.mp hd
    have := List.all_eq_true.mp q a ha
    cases a <;> simp [isTupNE] at this
    rename_i xs
    cases xs <;> simp [isTupNE] at this
    exact ⟨_, _, by simp only [D.py, D.pys]; rfl⟩
  · refine .inr fun d hd => ?_
    obtain ⟨a, ha, rfl⟩ := List.mem_map.mp hd
    have := List.all_eq_true.mp q a ha
    cases a <;> simp [isAtom] at this <;> exact ⟨by simp [D.py], by simp [D.py]⟩
theorem depth_all : ∀ {es : List D} {k : Nat}, (∀ d ∈ es, D.fit k d = true) → PyData.depthAll (es.map D.py) ≤ k
  | [], k, _ => by simp [PyData.depthAll]
  | e :: es, k, h => by
    simp only [List.map_cons, PyData.depthAll]
    have h1 := (D.fit_spec k e (h e List.mem_cons_self)).2
    have h2 := depth_all (k := k) fun d hd => h d (List.mem_cons_of_mem e hd)
    omega

/-! ### min, max of a list, with or without a default -/
def opMinL : OpL := fun ds g => match ds with
  | [d] => match lstOf d g with
    | some (e :: es) => if alkOk (e :: es) = true ∧ e ≠ .non then some (dMin e es, g) else none
    | _ => none
  | [.int i, .int j] => some (.int (if j < i then j else i), g)
  | _ => none
def opMaxL : OpL := fun ds g => match ds with
  | [d] => match lstOf d g with
    | some (e :: es) => if alkOk (e :: es) = true ∧ e ≠ .non then some (dMax e es, g) else none
    | _ => none
  | [.int i, .int j] => some (.int (if j > i then j else i), g)
  | _ => none
def opMinD : OpL := fun ds g => match ds with
  | [d, z] => match lstOf d g with
    | some [] => some (z, g)
    | some (e :: es) => if alkOk (e :: es) = true ∧ e ≠ .non then some (dMin e es, g) else none
    | _ => none
  | _ => none
def opMaxD : OpL := fun ds g => match ds with
  | [d, z] => match lstOf d g with
    | some [] => some (z, g)
    | some (e :: es) => if alkOk (e :: es) = true ∧ e ≠ .non then some (dMax e es, g) else none
    | _ => none
  | _ => none
/-- a call by values with keywords, told as one list -/
def rFLK (mg : Str → Option Value) (K : PySem.W.Frag) (f : OpL) : List V → List V → Hp → VK → Prop := fun xs zs H Q => rFL mg K f (xs ++ zs) H Q
theorem alike_non {x : D} (h : alike x.py .none = true) (hx : ∀ n, x ≠ .obj n) : x = .non := by
  cases x <;> simp [D.py, alike] at h
  · rfl
  · exact absurd rfl (hx _)
theorem alikeAll_of {e : D} {es : List D} (h : alkOk (e :: es) = true) (hn : e ≠ .non) : AlikeAll ((e :: es).map D.py) := by
  obtain ⟨h1, h2⟩ := alkOk_spec h
  have no : ∀ x ∈ e :: es, ∀ n, x ≠ .obj n := fun x hx n z => by
    have := h1 x hx
    rw [z] at this
    simp [D.fit] at this
  refine ⟨alk_map h2, fun x hx z => ?_⟩
  obtain ⟨a, ha, rfl⟩ := List.mem_map.mp hx
  have ea : a = .non := by
    cases a <;> simp [D.py] at z
    · rfl
    · exact absurd rfl (no _ ha _)
  subst ea
  have q := h2 e List.mem_cons_self _ ha
  exact hn (alike_non q (no e List.mem_cons_self))
section
variable {X : Cx}
/-- the item found, as its value -/
theorem found {pins : List (Addr × Obj)} {σ : L2.St} {H : Hp} {s : Shared} {ι : List Addr} (I : Inv X pins σ H s) {xs : List V} {us : List Value} {es : List D} {i : Nat} {v : Value} {h' : Heap} {x : D} {bs : List Addr}
    (hd : DenAll X.K ι H xs es) (rv : Vals xs us) (hf : ∀ d ∈ es, D.fit 16 d = true) (ha : ∀ d ∈ es, ∀ e ∈ es, alike d.py e.py = true) (hi : us[i]? = some v) (hk : ∀ b o, s.heap.get? b = some o → h'.get? b = some o) (hx : x ∈ es) (r : Reads h' v x.py bs) :
    ∃ w, RelV w v ∧ Den X.K ι H w x := by
  have er := each_reads I hf hd rv
  have key : ∀ {us : List Value} {es : List D} (i : Nat), EachIs (fun v (b : D) => (∃ as, Reads s.heap v b.py as) ∧ RD X.K ι H v b) us es → us[i]? = some v → ∃ b ∈ es, (∃ as, Reads s.heap v b.py as) ∧ RD X.K ι H v b := by
    intro us es i h
    induction h generalizing i with
    | nil => intro e; simp at e
    | cons a b ih =>
      intro e
      cases i with
      | zero => simp at e; subst e; exact ⟨_, List.mem_cons_self, a⟩
      | succ i =>
        obtain ⟨z, hz, q⟩ := ih i (by simpa using e)
        exact ⟨z, List.mem_cons_of_mem _ hz, q⟩
  have both : ∀ {us : List Value} {es : List D}, EachIs (fun v (b : D) => ∃ as, Reads s.heap v b.py as) us es → EachIs (RD X.K ι H) us es → EachIs (fun v (b : D) => (∃ as, Reads s.heap v b.py as) ∧ RD X.K ι H v b) us es := by
    intro us es h
    induction h with
    | nil => intro _; exact .nil
    | cons a b ih =>
      intro q
      cases q with
      | cons c d => exact .cons ⟨a, c⟩ (ih d)
  obtain ⟨b, hb, ⟨as, rb⟩, q⟩ := key i (both er (each_of hd rv)) hi
  have e1 := PySem.W.alike_unique _ _ _ _ _ (ha b hb x hx) (PyProof.Rows.Reads.keeps hk rb) r
  have : b = x := by
    have q1 := ha b hb x hx
    refine py_inj 16 b x (hf b hb) (hf x hx) q1 (toks_eq q1 (by rw [e1]))
  subst this
  exact q
theorem cr_minL (hc : X.calm = true) (hu : X.A.units + 17 < cLine) : CallR X (.builtin "min") (rFL X.mg X.K opMinL) := fun pins s σ H xs us Q I rv ⟨ι, g, ds, r, hd, h⟩ => by
  rcases ds with _ | ⟨d, _ | ⟨d2, ds⟩⟩
  · exact h.elim
  · obtain ⟨x, rfl, hx⟩ := denAll1 hd
    cases e : lstOf d g with
    | none => simp only [opMinL, e] at h; exact h.elim
    | some l =>
      rcases l with _ | ⟨y, ys⟩
      · simp only [opMinL, e] at h; exact h.elim
      · simp only [opMinL, e] at h
        by_cases hk : alkOk (y :: ys) = true ∧ y ≠ .non
        · rw [if_pos hk] at h
          obtain ⟨a, zs, rfl, hzs, hl⟩ := lst_of r e hx
          obtain ⟨u, rfl, ru⟩ := Vals.one rv
          cases ru
          obtain ⟨its, rz, pl, _⟩ := I.list hl
          obtain ⟨h1, h2⟩ := alkOk_spec hk.1
          obtain ⟨as, rd⟩ := Dp.readsAll I _ _ _ (dps_of 16 _ _ h1 hzs) rz
          rw [D.pys_map] at rd
          have dep := depth_all h1
          refine PySem.W.min_list_data (I.ok.hd hc) pl.isList (by simpa using rd) (alikeAll_of hk.1 hk.2) (by have := dep; simp only [List.map_cons] at this; omega) fun i v h' tk bs hi rr hkp => ?_
          rw [dMin_py] at rr
          obtain ⟨w, rw', dw⟩ := found I hzs rz h1 h2 (by simpa using hi) hkp (dMin_mem ys y) rr
          exact ⟨w, H, I.kept hkp, rw', RunO.plain r h dw⟩
        · rw [if_neg hk] at h; exact h.elim
  · rcases ds with _ | ⟨_, _⟩
    · obtain ⟨x, x2, rfl, hx, hx2⟩ := denAll2 hd
      cases hx with
      | int i =>
        cases hx2 with
        | int j => exact call_min2 hc pins s σ H _ us Q I rv ⟨i, j, rfl, RunO.plain r h (.int _)⟩
        | _ => exact h.elim
      | _ => cases hx2 <;> exact h.elim
    · cases d <;> (try cases d2) <;> exact h.elim
theorem cr_maxL (hc : X.calm = true) (hu : X.A.units + 17 < cLine) : CallR X (.builtin "max") (rFL X.mg X.K opMaxL) := fun pins s σ H xs us Q I rv ⟨ι, g, ds, r, hd, h⟩ => by
  rcases ds with _ | ⟨d, _ | ⟨d2, ds⟩⟩
  · exact h.elim
  · obtain ⟨x, rfl, hx⟩ := denAll1 hd
    cases e : lstOf d g with
    | none => simp only [opMaxL, e] at h; exact h.elim
    | some l =>
      rcases l with _ | ⟨y, ys⟩
      · simp only [opMaxL, e] at h; exact h.elim
      · simp only [opMaxL, e] at h
        by_cases hk : alkOk (y :: ys) = true ∧ y ≠ .non
        · rw [if_pos hk] at h
          obtain ⟨a, zs, rfl, hzs, hl⟩ := lst_of r e hx
          obtain ⟨u, rfl, ru⟩ := Vals.one rv
          cases ru
          obtain ⟨its, rz, pl, _⟩ := I.list hl
          obtain ⟨h1, h2⟩ := alkOk_spec hk.1
          obtain ⟨as, rd⟩ := Dp.readsAll I _ _ _ (dps_of 16 _ _ h1 hzs) rz
          rw [D.pys_map] at rd
          have dep := depth_all h1
          refine PySem.W.max_list_data (I.ok.hd hc) pl.isList (by simpa using rd) (alikeAll_of hk.1 hk.2) (by have := dep; simp only [List.map_cons] at this; omega) fun i v h' tk bs hi rr hkp => ?_
          rw [dMax_py] at rr
          obtain ⟨w, rw', dw⟩ := found I hzs rz h1 h2 (by simpa using hi) hkp (dMax_mem ys y) rr
          exact ⟨w, H, I.kept hkp, rw', RunO.plain r h dw⟩
        · rw [if_neg hk] at h; exact h.elim
  · rcases ds with _ | ⟨_, _⟩
    · obtain ⟨x, x2, rfl, hx, hx2⟩ := denAll2 hd
      cases hx with
      | int i =>
        cases hx2 with
        | int j => exact call_max2 hc pins s σ H _ us Q I rv ⟨i, j, rfl, RunO.plain r h (.int _)⟩
        | _ => exact h.elim
      | _ => cases hx2 <;> exact h.elim
    · cases d <;> (try cases d2) <;> exact h.elim
abbrev kwDef : List Str := [Str.ofString "default"]
/-- one argument, one keyword -/
def rF11 (mg : Str → Option Value) (K : PySem.W.Frag) (f : OpL) : List V → List V → Hp → VK → Prop := fun xs zs H Q => ∃ x z, xs = [x] ∧ zs = [z] ∧ rFL mg K f [x, z] H Q
theorem cr_minD (hc : X.calm = true) (hu : X.A.units + 17 < cLine) : CallRK X (.builtin "min") kwDef (rF11 X.mg X.K opMinD) := fun pins s σ H xs zs us ws Q I rv rz ⟨x, z, ex, ez, ι, g, ds, r, hd, h⟩ => by
  subst ex ez
  cases hd with
  | @cons _ _ d _ hx hd =>
    cases hd with
    | @cons _ _ dz _ hz hd =>
      cases hd
      cases e : lstOf d g with
      | none => simp only [opMinD, e] at h; exact h.elim
      | some l =>
        obtain ⟨a, vs, rfl, hvs, hl⟩ := lst_of r e hx
        obtain ⟨u, rfl, ru⟩ := Vals.one rv
        cases ru
        obtain ⟨wz, rfl, rwz⟩ := Vals.one rz
        obtain ⟨its, rI, pl, _⟩ := I.list hl
        rcases l with _ | ⟨y, ys⟩
        · simp only [opMinD, e] at h
          cases hvs
          cases rI
          refine PySem.W.min_list_default (xs := []) (as := []) (I.ok.hd hc) pl.isList .nil ⟨fun x hx => absurd hx (by simp), fun x hx => absurd hx (by simp)⟩ (by simp [PyData.depthAll]; omega) (fun _ h' tk hkp => ?_) (fun y ys i v h' tk bs ex => nomatch ex)
          exact ⟨z, H, I.kept hkp, rwz, RunO.plain r h hz⟩
        · simp only [opMinD, e] at h
          by_cases hk : alkOk (y :: ys) = true ∧ y ≠ .non
          · rw [if_pos hk] at h
            obtain ⟨h1, h2⟩ := alkOk_spec hk.1
            obtain ⟨as, rd⟩ := Dp.readsAll I _ _ _ (dps_of 16 _ _ h1 hvs) rI
            rw [D.pys_map] at rd
            have dep := depth_all h1
            refine PySem.W.min_list_default (I.ok.hd hc) pl.isList (by simpa using rd) (alikeAll_of hk.1 hk.2) (by omega) (fun ex => nomatch ex) fun y' ys' i v h' tk bs ex hi rr hkp => ?_
            rw [List.map_cons] at ex
            cases ex
            rw [dMin_py] at rr
            obtain ⟨w, rw', dw⟩ := found I hvs rI h1 h2 (by simpa using hi) hkp (dMin_mem ys y) rr
            exact ⟨w, H, I.kept hkp, rw', RunO.plain r h dw⟩
          · rw [if_neg hk] at h; exact h.elim
theorem cr_maxD (hc : X.calm = true) (hu : X.A.units + 17 < cLine) : CallRK X (.builtin "max") kwDef (rF11 X.mg X.K opMaxD) := fun pins s σ H xs zs us ws Q I rv rz ⟨x, z, ex, ez, ι, g, ds, r, hd, h⟩ => by
  subst ex ez
  cases hd with
  | @cons _ _ d _ hx hd =>
    cases hd with
    | @cons _ _ dz _ hz hd =>
      cases hd
      cases e : lstOf d g with
      | none => simp only [opMaxD, e] at h; exact h.elim
      | some l =>
        obtain ⟨a, vs, rfl, hvs, hl⟩ := lst_of r e hx
        obtain ⟨u, rfl, ru⟩ := Vals.one rv
        cases ru
        obtain ⟨wz, rfl, rwz⟩ := Vals.one rz
        obtain ⟨its, rI, pl, _⟩ := I.list hl
        rcases l with _ | ⟨y, ys⟩
        · simp only [opMaxD, e] at h
          cases hvs
          cases rI
          refine PySem.W.max_list_default (xs := []) (as := []) (I.ok.hd hc) pl.isList .nil ⟨fun x hx => absurd hx (by simp), fun x hx => absurd hx (by simp)⟩ (by simp [PyData.depthAll]; omega) (fun _ h' tk hkp => ?_) (fun y ys i v h' tk bs ex => nomatch ex)
          exact ⟨z, H, I.kept hkp, rwz, RunO.plain r h hz⟩
        · simp only [opMaxD, e] at h
          by_cases hk : alkOk (y :: ys) = true ∧ y ≠ .non
          · rw [if_pos hk] at h
            obtain ⟨h1, h2⟩ := alkOk_spec hk.1
            obtain ⟨as, rd⟩ := Dp.readsAll I _ _ _ (dps_of 16 _ _ h1 hvs) rI
            rw [D.pys_map] at rd
            have dep := depth_all h1
            refine PySem.W.max_list_default (I.ok.hd hc) pl.isList (by simpa using rd) (alikeAll_of hk.1 hk.2) (by omega) (fun ex => nomatch ex) fun y' ys' i v h' tk bs ex hi rr hkp => ?_
            rw [List.map_cons] at ex
            cases ex
            rw [dMax_py] at rr
            obtain ⟨w, rw', dw⟩ := found I hvs rI h1 h2 (by simpa using hi) hkp (dMax_mem ys y) rr
            exact ⟨w, H, I.kept hkp, rw', RunO.plain r h dw⟩
          · rw [if_neg hk] at h; exact h.elim
end
/-- f(a, default=b) -/
def mKw1 (f : OpL) (a b : EM) : EM := fun ρ g => (a ρ g).bind fun d g1 => (b ρ g1).bind fun z g2 => lift (f [d, z] g2)
section
variable {X : Cx} {W : WX} {pos p kpos : Pos}
theorem se_kw1 {x kn : Str} {id : String} {f : OpL} {e e2 : Expr} {ma mb : EM} (hc : CallRK X (.builtin id) [kn] (rF11 X.mg X.K f)) (hg : Gl X x) (hm : X.mg x = none) (hv : bootBuiltins x = some (.builtin id)) (ha : SE X W e ma) (hb : SE X W e2 mb) (hn : x ≠ "__name__" := by decide) (hdb : (x == ("__debug__" : Str)) = false := by decide)
    (hs : starEach [e] X.env = (false, eval e X.env) :: starEach [] X.env := by rfl)
    (he : backTo pos (starEach [e] X.env) = (false, eval e X.env) :: backTo pos (starEach [] X.env) := by rfl) (hpl : (backTo pos (starEach [e] X.env)).any (·.1) = false := by rfl)
    (hall : (backToKw pos (keywordEach [⟨some kn, e2, kpos⟩] X.env)).all (·.1.isSome) = true := by rfl) (hnone : (backToKw pos (keywordEach [⟨some kn, e2, kpos⟩] X.env)).any (·.1.isNone) = false := by rfl) (hks : (backToKw pos (keywordEach [⟨some kn, e2, kpos⟩] X.env)).filterMap (·.1) = [kn] := by rfl) :
    SE X W (.Call (.Name x p) [e] [⟨some kn, e2, kpos⟩] pos) (mKw1 f ma mb) :=
  ⟨PE.imp (pe_callBK hc hg hm hv (pa_cons ha.pe pa_nil hs) (pk_cons hb.pe pk_nil) hn hdb he hpl hall hnone hks) fun σ H Q ⟨ι, g, ρ, r, hρ, h⟩ => by
    refine ⟨ι, g, ρ, r, hρ, RunX.mono (RunX.bind (Dn := fun ι H v d => Den X.K ι H v d) h) fun v1 H1 ⟨ι1, g1, d1, s1, hd1, h1⟩ => ?_⟩
    have q1 := hρ.step s1
    refine ⟨ι1, g1, ρ, s1.rel, q1, RunX.mono (RunX.bind (Dn := fun ι H v d => Den X.K ι H v d) h1) fun v2 H2 ⟨ι2, g2, d2, s2, hd2, h2⟩ => ?_⟩
    exact ⟨v1, v2, rfl, rfl, ι2, g2, [d1, d2], s2.rel, .cons (s2.den hd1) (.cons hd2 .nil), runO_of h2⟩⟩
end
end L3

/-! L3M: sorted(x) of a list or of a dict's keys. -/
namespace L3
open PySem PySem.Spec L2
open PySem.W (dataLt alike AllAlike AlikeAll Sortable dataLe EachIs minD maxD)

/-- what sorted takes: a list's items, a dict's keys -/
def srcOf (d : D) (g : GH) : Option (List D) := match lstOf d g with
  | some ds => some ds
  | none => match d with
    | .obj n => (rdD g n).map fun p => p.2.map (·.1)
    | _ => none
def opSorted : OpL := fun ds g => match ds with
  | [d] => match srcOf d g with
    | some es => if srtOk es = true then some (.obj g.length, g ++ [.lst (dSort es)]) else none
    | none => none
  | _ => none
section
variable {prog : Program} {w : World} {A : Around} {E : Value → Shared → Prop} {s : Shared}
/-- a dict's keys, whatever they are -/
theorem rawSrc {d : Addr} {es : Array DictEntry} {ep : Nat} (lo : (d == sysModules) = false) : PySem.W.KdlSrc prog w "dict" d d es.size (fun i v => ∃ en, es[i]? = some en ∧ v = en.key) (fun h => DT.Raw h d es ep) where
  type := fun _ hm => hm.typeIs
  there := fun _ hm => ⟨hm.lt, hm.lt⟩
  keep := fun _ _ hm hk => hm.at' fun o e => hk d (.inl rfl) o e
  notList := by decide
  notTuple := by decide
  hint := fun _ _ _ _ hm hq => PySem.W.kdl_hint_dict hm.typeIs hq
  iter := fun A s hh hm => by
    obtain ⟨o, ho, hx, hd⟩ := id hm
    have ne : d ≠ s.heap.objs.size := Nat.ne_of_lt hm.lt
    refine ⟨_, fun i h => h.IsKeyIter s.heap.objs.size d i es.size ep ∧ DT.Raw h d es ep, (fun _ _ hq => iter_keys lo ho hx hd hq), ?_, ⟨_, Heap.get?_push_size _ rfl, rfl, rfl⟩, hm.push _⟩
    exact {
      sub := fun b hb => by rw [List.mem_singleton.mp hb]; exact List.mem_cons_self
      frame := fun i h h' st k => ⟨st.1.at fun o e => k _ List.mem_cons_self o e, st.2.at' fun o e => k d (List.mem_cons_of_mem _ List.mem_cons_self) o e⟩
      item := fun i t Q E hi st hQ => by
        obtain ⟨it, raw⟩ := st
        obtain ⟨o', ho', hx', hd'⟩ := id raw
        refine next_key_item it ho' hd' rfl (Array.getElem?_eq_getElem hi) fun h' it' sb => ?_
        exact hQ _ h' t.toks ⟨_, Array.getElem?_eq_getElem hi, rfl⟩ ⟨it', raw.at' fun o e => (sb.2 d ne).trans e⟩ fun b o hb e => (sb.2 b fun z => hb (List.mem_singleton.mpr z)).trans e
      done := fun t Q E st hQ => by
        obtain ⟨it, raw⟩ := st
        obtain ⟨o', ho', hx', hd'⟩ := id raw
        exact next_key_end hh it ho' hd' rfl (Nat.le_refl _) fun h' eb => hQ h' t.toks fun b o hb e => eb b o (fun z => hb (List.mem_singleton.mpr z)) e
      self := fun i t Q E st h => wpAny_pyIter_keyiter st.1 h }
/-- sorted of a dict: a new list of its keys -/
theorem sortedK {R : Value → D → Prop} {d : Addr} {es : Array DictEntry} {ep : Nat} {ks : List D} {Q : Value → Shared → Prop} (lo : (d == sysModules) = false) (hh : A.handled = none) (hm : DT.Raw s.heap d es ep) (e : EachIs R (es.toList.map (·.key)) ks)
    (er : EachIs (fun v (b : D) => ∃ as, Reads s.heap v b.py as) (es.toList.map (·.key)) ks) (hal : AllAlike (ks.map D.py)) (hk : Sortable (ks.map D.py)) (hL : ks.length ≤ sizeLine) (hu : ∀ b, b ∈ ks → A.units + 2 + b.py.depth < cLine)
    (h : ∀ (h1 h2 : Heap) (tk : Nat) (out : List Value) (n : Nat), (∀ b o, s.heap.get? b = some o → h1.get? b = some o) → (∀ b o, h1.get? b = some o → h2.get? b = some o) → h2.get? h1.objs.size = some (PyProof.Rows.seqObj "list" out.toArray n) → EachIs R out (ks.mergeSort (dataLe false D.py)) → Q (.ref h1.objs.size) { s with heap := h2, toks := tk }) :
    wpAny (model prog w) A (call (.builtin "sorted") [.ref d]) Q E s := by
  have hlen := each_len e
  rw [List.length_map, Array.length_toList] at hlen
  refine Calls.call_function_entry PyProof.Rows.kind_sorted PyProof.Rows.plain_sorted PyProof.Rows.entry_sorted (PyProof.Rows.args_sorted1 _) ?_
  unfold Builtin.«sorted»
  refine wpAny_bind (m := checkCount "sorted" 1 1 _) (wpAny_pure ?_)
  refine wpAny_bind (PySem.W.kdu_collect (A := A.in1) (rawSrc (es := es) (ep := ep) lo) hh hm (by rw [hlen]; exact hL) fun h' tk acc hkp hacc => ?_)
  have ea : acc.toList = es.toList.map (·.key) := by
    apply List.ext_getElem?
    intro j
    rw [List.getElem?_map, Array.getElem?_toList, Array.getElem?_toList]
    rcases Nat.lt_or_ge j acc.size with hj | hj
    · obtain ⟨en, h1, h2⟩ := hacc.2 j _ (Array.getElem?_eq_getElem hj)
      rw [Array.getElem?_eq_getElem hj, h1, h2]; rfl
    · rw [Array.getElem?_eq_none hj, Array.getElem?_eq_none (by rw [← hacc.1]; exact hj)]; rfl
  rw [ea]
  generalize es.toList.map (·.key) = vs at e er
  have lv := each_len e
  refine wpAny_bind (wpAny_newList ?_ (by rw [lv]; exact hL))
  have ho : (h'.push (PyProof.Rows.seqObj "list" vs.toArray 0)).get? h'.objs.size = some (PyProof.Rows.seqObj "list" vs.toArray 0) := Heap.get?_push_size _ rfl
  have kp2 : ∀ b o, s.heap.get? b = some o → (PySem.W.sortingHeap (h'.push (PyProof.Rows.seqObj "list" vs.toArray 0)) h'.objs.size vs).get? b = some o := fun b o q =>
    PySem.W.sortingHeap_old (Nat.ne_of_lt (Heap.lt_size (hkp b o q))) (Heap.get?_push_of_some _ (hkp b o q))
  have er' : EachIs (fun v (b : D) => ∃ as, Reads (PySem.W.sortingHeap (h'.push (PyProof.Rows.seqObj "list" vs.toArray 0)) h'.objs.size vs) v b.py as) vs ks := er.mono fun _ _ ⟨as, r⟩ => ⟨as, PyProof.Rows.Reads.keeps kp2 r⟩
  show wpAny _ _ _ _ _ { s with heap := h'.push (PyProof.Rows.seqObj "list" vs.toArray 0), toks := tk }
  refine wpAny_bind (wpAny_holding (wpAny_call_entry PyProof.Rows.slot_list_sort ⟨_, ho, rfl⟩ PyProof.Rows.entry_list_sort
    (PySem.W.list_sort_vals (s := { s with heap := h'.push (PyProof.Rows.seqObj "list" vs.toArray 0), toks := tk }) (κ := PySem.W.dataKind (PySem.W.sortingHeap (h'.push (PyProof.Rows.seqObj "list" vs.toArray 0)) h'.objs.size vs) (ks.map D.py)) ho
      (PySem.W.SortsAt.data (s := { s with heap := PySem.W.sortingHeap (h'.push (PyProof.Rows.seqObj "list" vs.toArray 0)) h'.objs.size vs, toks := tk }) (PySem.W.each_map (R := fun v d => ∃ as, Reads (PySem.W.sortingHeap (h'.push (PyProof.Rows.seqObj "list" vs.toArray 0)) h'.objs.size vs) v d as) D.py er') hal hk (PySem.W.bound_map (A := A.in1.in1) hu))
      (by rw [lv]; exact hL) ⟨.none, rfl, ?_⟩) (PyProof.Rows.args_list_sort _)))
  obtain ⟨n, hn⟩ := PyProof.Rows.sortedHeap_at (vs := vs) (out := (PySem.W.sortVals (PySem.W.dataKind (PySem.W.sortingHeap (h'.push (PyProof.Rows.seqObj "list" vs.toArray 0)) h'.objs.size vs) (ks.map D.py)) false vs vs).toArray) ho
  refine wpAny_pure ⟨_, rfl, h h' _ tk _ n hkp (fun b o q' => ?_) hn (PySem.W.sortVals_data false e er' hal)⟩
  have hb := Heap.lt_size q'
  rw [PyProof.Rows.sortedHeap_old (Nat.ne_of_lt hb) (by rw [PyProof.Rows.size_push']; exact Nat.lt_succ_of_lt hb)]
  exact Heap.get?_push_of_some _ q'
end
section
variable {X : Cx}
theorem keysK {K : PySem.W.Frag} {ι : List Addr} {H : Hp} {P : Program} {w : World} : ∀ {es : List DictEntry} {vs : List (Key × Value)} {ps : List (Key × V)} {kvs : List (D × D)}, Pairs (mixKind P w) es vs → KV ps vs → Paired (fun (p : Key × V) (q : D × D) => q.1 = kD p.1 ∧ Den K ι H p.2 q.2) ps kvs →
    EachIs (RD K ι H) (es.map (·.key)) (kvs.map (·.1))
  | _, _, _, _, .nil, kv, pr => by
    cases kv
    cases pr
    exact .nil
  | _, _, _, _, .cons h1 h2 t, kv, pr => by
    cases kv with
    | cons r rr =>
      cases pr with
      | @cons _ q _ _ pr prr =>
        refine .cons ⟨_, relV_key h1, ?_⟩ (keysK t rr prr)
        show Den K ι H _ q.1
        rw [pr.1, r.1]
        exact key_den _
theorem keysT {K : PySem.W.Frag} {ι : List Addr} {H : Hp} {P : Program} {w : World} : ∀ {xs : List (List Key × Addr × Value)} {ps : List (List Key × V)} {kvs : List (D × D)},
    Paired (fun (p : List Key × V) (q : List Key × Addr × Value) => p.1 = q.1 ∧ H q.2.1 = some (.tup (p.1.map kV)) ∧ RelV p.2 q.2.2) ps xs → Paired (fun (p : List Key × V) (q : D × D) => q.1 = .tup (p.1.map kD) ∧ Den K ι H p.2 q.2) ps kvs →
    EachIs (RD K ι H) ((xs.map (entryOfKey (tupleKind (mixKind P w)))).map (·.key)) (kvs.map (·.1))
  | _, _, _, .nil, pr => by
    cases pr
    exact .nil
  | _, _, _, .cons r rr, pr => by
    cases pr with
    | @cons p q _ _ pr prr =>
      refine .cons ⟨.ref _, rfl, ?_⟩ (keysT rr prr)
      show Den K ι H _ q.1
      rw [pr.1]
      exact .tup (TpT.of r.2.1) (keys_den _)
theorem dict_raw {pins : List (Addr × Obj)} {σ : L2.St} {H : Hp} {s : Shared} {ι : List Addr} {g : GH} (I : Inv X pins σ H s) (r : Rel X.mg X.K ι g H) {n : Nat} {a : Addr} {t : Bool} {kvs : List (D × D)} (e : rdD g n = some (t, kvs)) (ea : ι[n]? = some a) :
    (a == sysModules) = false ∧ ∃ (es : Array DictEntry) (ep : Nat), DT.Raw s.heap a es ep ∧ EachIs (RD X.K ι H) (es.toList.map (·.key)) (kvs.map (·.1)) := by
  obtain ⟨u, rd, dc⟩ := r.rdD e ea
  rcases dc with ⟨rfl, ps, rfl, pr⟩ | ⟨rfl, ps, rfl, pr⟩
  · obtain ⟨z, lo, vs, rel, dd⟩ := dk_rd I.hok rd
    obtain ⟨ep, o, es, ho, hx, hdt, hko, hpr, hnd⟩ := dd.dictAt
    exact ⟨lo, es, ep, ⟨o, ho, hx, hdt⟩, keysK hpr rel pr⟩
  · obtain ⟨z, lo, xs, rel, o, es, ep, ho, hx, hdt, he, _⟩ := (show ObjOk X.prog X.w H s.heap a (.dT ps) from rd_of I.hok rd)
    refine ⟨lo, es, ep, ⟨o, ho, hx, hdt⟩, ?_⟩
    rw [he]
    exact keysT rel pr
theorem each_rd {pins : List (Addr × Obj)} {σ : L2.St} {H : Hp} {s : Shared} {ι : List Addr} (I : Inv X pins σ H s) : ∀ {us : List Value} {ds : List D}, (∀ d ∈ ds, D.fit 16 d = true) → EachIs (RD X.K ι H) us ds → EachIs (fun v (b : D) => ∃ as, Reads s.heap v b.py as) us ds
  | _, _, _, .nil => .nil
  | _, _, h, .cons a b => by
    obtain ⟨x, r, d⟩ := a
    exact .cons (Dp.reads I _ _ _ (dp_of 16 _ _ (h _ List.mem_cons_self) d) r) (each_rd I (fun z hz => h z (List.mem_cons_of_mem _ hz)) b)
theorem fit_depth {d : D} (h : D.fit 16 d = true) : d.py.depth ≤ 16 := (D.fit_spec 16 d h).2
/-- a new list laid on the run's heap -/
theorem lay_list {pins : List (Addr × Obj)} {σ : L2.St} {H : Hp} {s : Shared} {h2 : Heap} {tk : Nat} {ι : List Addr} {g : GH} {Q : VK} {L : Addr} {n : Nat} {out : List Value} {es : List D} (I : Inv X pins σ H s) (r : Rel X.mg X.K ι g H) (hk : ∀ b o, s.heap.get? b = some o → h2.get? b = some o) (hL : s.heap.objs.size ≤ L)
    (ho : h2.get? L = some (PyProof.Rows.seqObj "list" out.toArray n)) (he : EachIs (RD X.K ι H) out es) (hl : es.length ≤ sizeLine) (h : RunO X.mg X.K ι H Q (some (.obj g.length, g ++ [.lst es]))) : EP X pins σ Q (.ref L) { s with heap := h2, toks := tk } := by
  obtain ⟨xs, rv, dn⟩ := of_each he
  have e1 := dn.length
  exact ⟨.ref L, upd H L (.lst xs), I.laid (t' := tk) hk hL ⟨by rw [e1]; exact hl, out, n, rv, ho⟩, rfl, RunO.newL (r := r) h dn _ (I.hok.fresh hL)⟩
theorem cr_sortedA (hc : X.calm = true) (hu : X.A.units + 18 < cLine) : CallR X (.builtin "sorted") (rFL X.mg X.K opSorted) := fun pins s σ H xs us Q I rv ⟨ι, g, ds, r, hd, h⟩ => by
  rcases ds with _ | ⟨d, _ | ⟨d2, ds⟩⟩
  · exact h.elim
  · obtain ⟨x, rfl, hx⟩ := denAll1 hd
    obtain ⟨u, rfl, ru⟩ := Vals.one rv
    cases e : srcOf d g with
    | none => simp only [opSorted, e] at h; exact h.elim
    | some es =>
      simp only [opSorted, e] at h
      by_cases hk : srtOk es = true
      · rw [if_pos hk] at h
        obtain ⟨ha, hso, hl⟩ := srt_spec hk
        obtain ⟨h1, h2⟩ := alkOk_spec ha
        have hl' : (dSort es).length ≤ sizeLine := by rw [(dSort_perm es).length_eq]; exact hl
        have hub : ∀ b, b ∈ es → X.A.units + 2 + b.py.depth < cLine := fun b hb => by
          have := fit_depth (h1 b hb)
          omega
        unfold srcOf at e
        cases e1 : lstOf d g with
        | some l =>
          rw [e1] at e
          cases e
          obtain ⟨a, zs, rfl, hzs, hq⟩ := lst_of r e1 hx
          cases ru
          obtain ⟨its, rz, pl, _⟩ := I.list hq
          refine PySem.W.sorted_data (R := RD X.K ι H) pl.isList (each_of hzs rz) (each_reads I h1 hzs rz) (alk_map h2) hso hl hub fun out hlen he => ?_
          rw [merge_eq ha] at he
          obtain ⟨n, hn⟩ := PyProof.Rows.sortedAll_at s.heap its out.toArray
          exact lay_list (tk := s.toks) I r (fun _ _ => PyProof.Rows.sortedAll_old) (Nat.le_succ _) hn he hl' h
        | none =>
          rw [e1] at e
          cases hx with
          | @obj a n hn =>
            cases ru
            cases e2 : rdD g n with
            | none => simp [e2] at e
            | some p =>
              obtain ⟨t, kvs⟩ := p
              simp [e2] at e
              subst e
              obtain ⟨lo, des, ep, raw, hE⟩ := dict_raw I r e2 hn
              refine sortedK (R := RD X.K ι H) lo (I.ok.hd hc) raw hE (each_rd I h1 hE) (alk_map h2) hso hl hub fun g1 g2 tk out m k1 k2 ho he => ?_
              rw [merge_eq ha] at he
              have I1 : Inv X pins σ H { s with heap := g1, toks := tk } := I.kept k1
              exact lay_list (s := { s with heap := g1, toks := tk }) (tk := tk) I1 r k2 (Nat.le_refl _) ho he hl' h
          | _ => cases e
      · rw [if_neg hk] at h; exact h.elim
  · exact h.elim
end
end L3

/-! L3N: chains of comparisons; dicts of the written part; displays of dicts, dict comprehensions, of either kind of keys. -/
namespace L3
open PySem PySem.Spec L2

/-! ### a < b < c -/
def mChain (f f' : Op2) (a b c : EM) : EM := fun ρ g => (a ρ g).bind fun x g1 => (b ρ g1).bind fun y g2 => match f x y g2 with
  | some (.bl true, g3) => (c ρ g3).bind fun z g4 => lift (f' y z g4)
  | some (.bl false, g3) => .ok (.bl false) g3
  | _ => .bad
section
variable {X : Cx} {W : WX} {pos : Pos} {a b c : Expr} {ma mb mc : EM} {op op' : CmpOp} {f f' : Op2}
theorem tF_chain {mg : Str → Option Value} {K : PySem.W.Frag} : ∀ σ H Q, tF mg K W (mChain f f' ma mb mc) σ H Q → tChain (rF2 mg K f) (rF2 mg K f') (tF mg K W ma) (tF mg K W mb) (tF mg K W mc) σ H Q := fun σ H Q ⟨ι, g, ρ, r, hρ, h⟩ => by
  refine ⟨ι, g, ρ, r, hρ, RunX.mono (RunX.bind (Dn := fun ι H v d => Den K ι H v d) h) fun v1 H1 ⟨ι1, g1, d1, s1, hd1, h1⟩ => ?_⟩
  have q1 := hρ.step s1
  refine ⟨ι1, g1, ρ, s1.rel, q1, RunX.mono (RunX.bind (Dn := fun ι H v d => Den K ι H v d) h1) fun v2 H2 ⟨ι2, g2, d2, s2, hd2, h2⟩ => ?_⟩
  have q2 := q1.step s2
  refine ⟨ι2, g2, d1, d2, s2.rel, s2.den hd1, hd2, ?_⟩
  cases e : f d1 d2 g2 with
  | none => simp only [e] at h2; exact h2.elim
  | some p =>
    obtain ⟨d, g3⟩ := p
    cases d with
    | bl k =>
      intro ι3 H3 v3 s3 hv
      cases hv
      refine ⟨k, rfl, ?_⟩
      cases k with
      | true =>
        rw [if_pos rfl]
        simp only [e] at h2
        refine ⟨ι3, g3, ρ, s3.rel, q2.step s3, RunX.mono (RunX.bind (Dn := fun ι H v d => Den K ι H v d) (RunX.step h2 s3)) fun v4 H4 ⟨ι4, g4, d4, s4, hd4, h4⟩ => ?_⟩
        exact ⟨ι4, g4, d2, d4, s4.rel, s4.den (s3.den hd2), hd4, runO_of h4⟩
      | false =>
        rw [if_neg (by decide)]
        simp only [e] at h2
        exact h2 ι3 H3 _ s3 (.bl false)
    | _ => simp only [e] at h2; exact h2.elim
theorem se_chain (ho : OpR X (compareOp op) (rF2 X.mg X.K f)) (ho' : OpR X (compareOp op') (rF2 X.mg X.K f')) (ha : SE X W a ma) (hb : SE X W b mb) (hc : SE X W c mc)
    (hm : lastMarks [op, op'] [b, c] = false := by with_unfolding_all rfl) : SE X W (.Compare a [op, op'] [b, c] pos) (mChain f f' ma mb mc) := ⟨PE.imp (pe_chain ho ho' ha.pe hb.pe hc.pe hm) tF_chain⟩
theorem st_chain (ho : OpR X (compareOp op) (rF2 X.mg X.K f)) (ho' : OpR X (compareOp op') (rF2 X.mg X.K f')) (ha : SE X W a ma) (hb : SE X W b mb) (hc : SE X W c mc)
    (hm : lastMarks [op, op'] [b, c] = false := by with_unfolding_all rfl) : ST X W (.Compare a [op, op'] [b, c] pos) (mChain f f' ma mb mc) :=
  ⟨PT.imp (pt_chain ho ho' ha.pe hb.pe hc.pe hm) fun σ H Q h => by
    obtain ⟨ι, g, ρ, r, hρ, h⟩ := tFT_of σ H Q h
    exact tF_chain σ H _ ⟨ι, g, ρ, r, hρ, h⟩⟩
end

/-! ### a dict of the written part, text keys -/
def kdGet (kvs : List (Str × D)) (z : Str) : Option D := (kvs.find? fun p => decide (p.1 = z)).map (·.2)
structure KD (K : PySem.W.Frag) (w : World) (a : Addr) (kvs : List (Str × D)) : Prop where
  at_ : ∃ es n, KDict K w a es n
  get : ∀ z, ∃ r, PySem.W.nsIn K a z = some r ∧ (kdGet kvs z = none → r = none) ∧ ∀ d, kdGet kvs z = some d → ∃ u x, r = some u ∧ RelV x u ∧ ∀ ι H, Den K ι H x d
def mKdIn (kvs : List (Str × D)) (neg : Bool) (m : EM) : EM := fun ρ g => (m ρ g).bind fun d g1 => match d with
  | .str z => .ok (.bl (if neg then !(kdGet kvs z).isSome else (kdGet kvs z).isSome)) g1
  | _ => .bad
def mKdIx (kvs : List (Str × D)) (m : EM) : EM := fun ρ g => (m ρ g).bind fun d g1 => match d with
  | .str z => match kdGet kvs z with
    | some v => .ok v g1
    | none => .bad
  | _ => .bad
section
variable {X : Cx} {W : WX} {pos p : Pos} {e : Expr} {m : EM} {kvs : List (Str × D)} {x : Str} {a : Addr}
theorem kd_some {K : PySem.W.Frag} {w : World} (D : KD K w a kvs) (z : Str) : ∃ r, PySem.W.nsIn K a z = some r ∧ r.isSome = (kdGet kvs z).isSome := by
  obtain ⟨r, h1, h2, h3⟩ := D.get z
  refine ⟨r, h1, ?_⟩
  cases e : kdGet kvs z with
  | none => rw [h2 e]; rfl
  | some d =>
    obtain ⟨u, _, q, _⟩ := h3 d e
    rw [q]; rfl
theorem se_kdIn (hg : Gl X x) (hm : X.mg x = some (.ref a)) (D : KD X.K X.w a kvs) (he : SE X W e m) (hd : (x == ("__debug__" : Str)) = false := by decide) (hn : behindInMarks .In (.Name x p) = false := by rfl) : SE X W (.Compare e [.In] [.Name x p] pos) (mKdIn kvs false m) := by
  obtain ⟨es, n, kd⟩ := D.at_
  refine ⟨PE.imp (pe_cmpR (op_in_kd kd) he.pe (pe_glob (v := .ref a) hg hm rfl hd) hn) fun σ H Q ⟨ι, g, ρ, r, hρ, h⟩ => ?_⟩
  refine ⟨ι, g, ρ, r, hρ, RunX.mono (RunX.bind (Dn := fun ι H v d => Den X.K ι H v d) h) fun v H1 ⟨ι1, g1, d, s1, hd, h1⟩ => ?_⟩
  cases hd with
  | str z =>
    obtain ⟨r, h2, h3⟩ := kd_some D z
    exact ⟨z, r, rfl, rfl, h2, by rw [h3]; exact h1 ι1 H1 _ (Step.refl s1.rel) (.bl _)⟩
  | _ => exact h1.elim
theorem se_kdNotIn (hg : Gl X x) (hm : X.mg x = some (.ref a)) (D : KD X.K X.w a kvs) (he : SE X W e m) (hd : (x == ("__debug__" : Str)) = false := by decide) (hn : behindInMarks .NotIn (.Name x p) = false := by rfl) : SE X W (.Compare e [.NotIn] [.Name x p] pos) (mKdIn kvs true m) := by
  obtain ⟨es, n, kd⟩ := D.at_
  refine ⟨PE.imp (pe_cmpR (op_notIn_kd kd) he.pe (pe_glob (v := .ref a) hg hm rfl hd) hn) fun σ H Q ⟨ι, g, ρ, r, hρ, h⟩ => ?_⟩
  refine ⟨ι, g, ρ, r, hρ, RunX.mono (RunX.bind (Dn := fun ι H v d => Den X.K ι H v d) h) fun v H1 ⟨ι1, g1, d, s1, hd, h1⟩ => ?_⟩
  cases hd with
  | str z =>
    obtain ⟨r, h2, h3⟩ := kd_some D z
    exact ⟨z, r, rfl, rfl, h2, by rw [h3]; exact h1 ι1 H1 _ (Step.refl s1.rel) (.bl _)⟩
  | _ => exact h1.elim
theorem se_kdIx (hg : Gl X x) (hm : X.mg x = some (.ref a)) (D : KD X.K X.w a kvs) (he : SE X W e m) (hd : (x == ("__debug__" : Str)) = false := by decide) (hs : PlainIx e := by intro _ _; rfl) : SE X W (.Subscript (.Name x p) e pos) (mKdIx kvs m) := by
  obtain ⟨es, n, kd⟩ := D.at_
  refine ⟨PE.imp (pe_ix ix_kdict (pe_glob (v := .ref a) hg hm rfl hd) he.pe hs) fun σ H Q ⟨ι, g, ρ, r, hρ, h⟩ => ?_⟩
  refine ⟨ι, g, ρ, r, hρ, RunX.mono (RunX.bind (Dn := fun ι H v d => Den X.K ι H v d) h) fun v H1 ⟨ι1, g1, d, s1, hd, h1⟩ => ?_⟩
  cases hd with
  | str z =>
    obtain ⟨r, h2, _, h4⟩ := D.get z
    cases q : kdGet kvs z with
    | none => simp only [q] at h1; exact h1.elim
    | some d =>
      simp only [q] at h1
      obtain ⟨u, y, rfl, ry, hd⟩ := h4 d q
      exact ⟨a, z, y, rfl, rfl, ⟨es, n, u, kd.at_, kd.lit, h2, ry⟩, h1 ι1 H1 _ (Step.refl s1.rel) (hd _ _)⟩
  | _ => exact h1.elim
end
end L3

/-! L3O: displays of dicts and dict comprehensions, of either kind of keys. -/
namespace L3
open PySem PySem.Spec PyProof.Rows L2

/-- an empty dict that is to have tuples as keys (t), or ints and texts -/
def dE (t : Bool) : HO := if t then .dT [] else .dK []
theorem dE_empty {P : Program} {w : World} {H : Hp} {h : Heap} (t : Bool) (hb : sysModules < h.objs.size) : ObjOk P w H (h.push { cls := .type "dict", data := .dict #[] }) h.objs.size (dE t) := by
  cases t with
  | true => exact dt_empty h hb
  | false => exact dk_empty h hb
theorem d_dictSetG {X : Cx} {pins : List (Addr × Obj)} {σ : L2.St} {H H' : Hp} {s : Shared} {E : Value → Shared → Prop} {a : Addr} {y v : V} {u r : Value} {Q : Unit → Shared → Prop} (hu : X.A.units + 1 < cLine) (I : Inv X pins σ H s) (g : DPut H a y v H')
    (ry : RelV y u) (rv : RelV v r) (h : ∀ s', Inv X pins σ H' s' → Q () s') : wpAny (model X.prog X.w) X.A (dictSet a u r) Q E s := by
  rcases g with ⟨kvs, k, e, ey, l, eH⟩ | ⟨kvs, k, b, e, ey, eb, l, eH⟩
  · subst ey eH
    exact d_dictSet I e l ry rv h
  · subst ey eH
    obtain rfl : u = Value.ref b := ry
    obtain ⟨z, hd, xs, rel, dd⟩ := dt_of I.hok e
    have hz : xs.length ≤ sizeLine := by rw [← Paired.length rel]; exact z
    have hl := length_putK kvs k v
    have room : (tupleKind (mixKind X.prog X.w)).room X.A := show X.A.units < cLine by omega
    refine wpAny_dictSet_heap (hsz := hz) room (key_of I.hok eb) dd fun h' ⟨q, es, ep, hq, h2, h3, h4, _, h5⟩ hs => h _ ?_
    refine d_write I (by rw [e]; exact True.intro) hs ⟨q, hq⟩ ⟨by omega, hd, _, (rel.put k eb rv).keeps fun c ys ec => ?_, q, es, ep, hq, h2, h3, h4, h5⟩
    rw [upd_ne (ne_of ec e fun z => nomatch z)]
    exact ec
section
variable {X : Cx}
def tDcG (t : Bool) (wi : TI) (g : TG) (tt : TT) (tk tv : TE) (vs : List Nat) : TE := fun σ H Q => wi σ H fun J H1 => ∀ D, H1 D = none → ∃ W : Nat → Nat → Hp → Prop, (∃ m, W 0 m (upd H1 D (dE t))) ∧ ∀ i m H, W i m H →
  (J.stop i H ∧ Q (.ref D) H) ∨ (J.go i H ∧ ∃ Nx : Hp → Prop, (∀ H', Nx H' → ∃ m', m' < m ∧ W (i + 1) m' H') ∧ ∀ x H', J.yld i H x H' → g x (L2.wipe σ vs) H' fun σ2 H2 => L2.wipe σ2 vs = L2.wipe σ vs ∧ tt σ2 H2 fun b H3 =>
    if b = true then tk σ2 H3 fun y H4 => tv σ2 H4 fun z H5 => ∃ H6, DPut H5 D y z H6 ∧ Nx H6 else Nx H3)
theorem dcg_core (t : Bool) (hu : X.A.units + 1 < cLine) {pn0 : List (Addr × Obj)} {s : Shared} {σ : L2.St} {H : Hp} {Q : VK} {kx vx tg iter : Expr} {ifs : List Expr} {scope : Scope} {own : List (Str × Nat)} {pos pos' : Pos} {wi : TI} {g : TG} {tt : TT} {tk tv : TE} {use : Option (Value → Sem Unit)} {Qf : Value → Shared → Prop}
    (hc : X.calm = true) (hN : X.N.Nodup) (I : Inv X pn0 σ H s) (hi : PI X tg iter wi) (ok : BlkOk X.N X.env.scope scope own)
    (hg : ∀ (s : Shared) (H : Hp) (C : Addr) (cl : List (Str × Addr)) (cells : List Addr), PG (X.blk s H scope (compEnvC scope cl C X.env) cells) tg g) (ht : ∀ (s : Shared) (H : Hp) (C : Addr) (cl : List (Str × Addr)) (cells : List Addr), PTs (X.blk s H scope (compEnvC scope cl C X.env) cells) ifs tt)
    (hk : ∀ (s : Shared) (H : Hp) (C : Addr) (cl : List (Str × Addr)) (cells : List Addr), PE (X.blk s H scope (compEnvC scope cl C X.env) cells) kx tk)
    (he : ∀ (s : Shared) (H : Hp) (C : Addr) (cl : List (Str × Addr)) (cells : List Addr), PE (X.blk s H scope (compEnvC scope cl C X.env) cells) vx tv) (hs : ∀ x, foldedSetIterable iter X.env x = pure x)
    (h : tDcG t wi g tt tk tv (own.map (·.2)) σ H Q)
    (hRR : ∀ D C s' m H', Inv X pn0 σ H' s' → Q (.ref D) H' → s'.heap.Ns C m → FpOk X pn0 H' C → compPost (model X.prog X.w) X.A X.xe use Qf (.ref D) C (.ok .next) s') :
    wpAny (model X.prog X.w) X.A (comprehension (.DictComp kx vx [⟨tg, iter, ifs, 0⟩] scope pos) scope X.env pos' newDict false (eval iter X.env) use) Qf X.xe s := by
  have hfr : ∀ y ∈ scope.names, y.2 = .free → ∃ c, X.env.cells.lookup y.1 = some c := fun y hy e => by
    rcases ok.free y hy e with k | k
    · exact I.ok.has _ (.inl k)
    · exact I.ok.has _ (.inr k)
  refine wpAny_comprehension_free (use := use) rfl hs (closure_ok hfr) ok.kind (fun y hy e => by rw [ok.uniq y hy, e])
    (thn (hi.run pn0 s σ H _ I h) fun qv0 ta qh0 => thn qh0 fun qi0 tb h2 => ?_)
  obtain ⟨it, cells, tn, J, Hb, e, Ib, T, tn2, fp2, q⟩ := h2
  subst e
  refine wpAny_newObj_type (newEnv_comp ?_)
  generalize eD : tb.heap.objs.size = D
  have nD : Hb D = none := Ib.hok.fresh (Nat.le_of_eq eD)
  obtain ⟨W, ⟨mz, wz⟩, trn⟩ := q D nD
  -- the new list
  generalize esc : ({ tb with heap := tb.heap.push { cls := .type "dict", data := .dict #[] } } : Shared) = tc
  have Ic : Inv X pn0 σ (upd Hb D (dE t)) tc := by
    rw [← esc]
    refine Ib.laid (t' := tb.toks) (fun b o e => Heap.get?_push_of_some _ e) (Nat.le_of_eq eD) ?_
    rw [← eD]
    exact dE_empty t Ib.big
  have h3 : tc.heap = tb.heap.push { cls := .type "dict", data := .dict #[] } := by rw [← esc]
  have szc : ∀ b ∈ cells, b < tb.heap.objs.size := fun b hb => by
    obtain ⟨o, e, _⟩ := T.obj _ _ tn2 b hb
    exact Heap.lt_size e
  have fpc : ∀ b ∈ cells, FpOk X pn0 (upd Hb D (dE t)) b ∧ b < tc.heap.objs.size := fun b hb => by
    have hlt := szc b hb
    refine ⟨⟨?_, (fp2 b hb).2⟩, by rw [h3, Heap.size_push]; exact Nat.lt_succ_of_lt hlt⟩
    rw [upd_ne (by rw [← eD]; exact Nat.ne_of_lt hlt)]
    exact (fp2 b hb).1
  have tn3 : tn 0 tc.heap := T.keep _ _ _ tn2 fun b _ o e => by rw [h3]; exact Heap.get?_push_of_some _ e
  have Id := block_start Ic ok hN fpc
  have gP := hg tc (upd Hb D (dE t)) tc.heap.objs.size (cellsFrom (tc.heap.objs.size + 1) scope.names (cloFrom X.env.cells scope.names [])) cells
  have tP := ht tc (upd Hb D (dE t)) tc.heap.objs.size (cellsFrom (tc.heap.objs.size + 1) scope.names (cloFrom X.env.cells scope.names [])) cells
  have kP := hk tc (upd Hb D (dE t)) tc.heap.objs.size (cellsFrom (tc.heap.objs.size + 1) scope.names (cloFrom X.env.cells scope.names [])) cells
  have eP := he tc (upd Hb D (dE t)) tc.heap.objs.size (cellsFrom (tc.heap.objs.size + 1) scope.names (cloFrom X.env.cells scope.names [])) cells
  show codeAny _ _ (.compStart (.DictComp kx vx [⟨tg, iter, ifs, 0⟩] scope pos) 0 (.ref it) (.ref D) (compEnvC scope (cellsFrom (tc.heap.objs.size + 1) scope.names (cloFrom X.env.cells scope.names [])) tc.heap.objs.size X.env)) (compPost (model X.prog X.w) X.A X.xe use Qf (.ref D) tc.heap.objs.size) { tc with heap := pushCells (tc.heap.push { cls := .type "dict", data := .dict #[] }) scope.names }
  have ncl : ∀ b ∈ cells, (upd Hb D (dE t)) b = none := fun b hb => (fpc b hb).1.1
  generalize ecn : compEnvC scope (cellsFrom (tc.heap.objs.size + 1) scope.names (cloFrom X.env.cells scope.names [])) tc.heap.objs.size X.env = cenv at Id gP tP kP eP ⊢
  have ecl : cenv.locals = tc.heap.objs.size := by subst ecn; rfl
  generalize eHc : upd Hb D (dE t) = Hc at Ic Id gP tP kP eP wz ncl fpc
  generalize esd : ({ tc with heap := pushCells (tc.heap.push { cls := .type "dict", data := .dict #[] }) scope.names } : Shared) = td0 at Id ⊢
  have tn4 : tn 0 td0.heap := T.keep _ _ _ tn3 fun b _ o e => by rw [← esd]; exact pushCells_keeps _ _ _ _ (Heap.get?_push_of_some _ e)
  have sta : ∀ {σ' : L2.St} {H' : Hp} {s' : Shared}, Inv (X.blk tc Hc scope cenv cells) [] σ' H' s' → (∀ b ∈ cells, H' b = none) → ∀ b ∈ cells, FpOk (X.blk tc Hc scope cenv cells) [] H' b := fun {σ' H' s'} I' hn b hb =>
    ⟨hn b hb, (I'.ok.exf b hb).1, I'.ok.exfs b hb, .inl hb, fun x c e => (I'.ok.exf b hb).2 x c e, fun p hp => absurd (show p ∈ ([] : List (Addr × Obj)) ++ [] from hp) (by simp)⟩
  have whole : codeAny (model X.prog X.w) X.A (.compLoop (.DictComp kx vx [⟨tg, iter, ifs, 0⟩] scope pos) 0 (.ref it) (.ref D) cenv) (compPost (model X.prog X.w) X.A X.xe use Qf (.ref D) tc.heap.objs.size) td0 := by
    refine compLoop_anyD (fun n s' => ∃ i H', Inv (X.blk tc Hc scope cenv cells) [] (L2.wipe σ (own.map (·.2))) H' s' ∧ tn i s'.heap ∧ (∀ b ∈ cells, H' b = none) ∧ W i n H') ?_ mz ⟨0, Hc, Id, tn4, ncl, wz⟩
    rintro n te0 ⟨i, He, Ie, tn5, ne5, we5⟩
    rcases trn i n He we5 with ⟨stops, qend⟩ | ⟨goes, Nx, hNx, stp⟩
    · have fin0 := T.done (X.blk tc Hc scope cenv cells) rfl rfl rfl hc i [] te0 _ He (fun _ _ => False) Ie (sta Ie ne5) tn5 stops
      refine thnF fin0 fun r tf0 ⟨hr, If⟩ => ?_
      subst hr
      -- back in the def's context
      have Ig : Inv X pn0 σ He tf0 := Ic.call' (ch := cells) If.os If.base If.hok If.bare fun b hb => ⟨(fpc b hb).1.2.2.2.1, (fpc b hb).1.2.1, (fpc b hb).1.2.2.2.2.1, (fpc b hb).1.2.2.2.2.2⟩
      have noC : He tc.heap.objs.size = none := by
        have z : He cenv.locals = none := If.free
        rw [ecl] at z
        exact z
      obtain ⟨m, hn, _⟩ := If.loc
      have hn : tf0.heap.Ns cenv.locals m := hn
      rw [ecl] at hn
      exact hRR D tc.heap.objs.size tf0 m He Ig qend hn (Ic.fpOk (Nat.le_refl _) noC)
    · have itm := T.item (X.blk tc Hc scope cenv cells) rfl rfl rfl hc i [] te0 _ He (fun _ _ => False) Ie (sta Ie ne5) tn5 goes
      refine thnF itm fun r tf0 ⟨u, hr, h6⟩ => ?_
      subst hr
      refine thnF h6 fun _ tg0 ⟨x, Hg, Ig, rg, yg, tn7, ng⟩ => ?_
      have I7' := Ig.pinned (sta Ig ng) (T.obj _ _ tn7)
      refine thnF (gP.run _ tg0 _ Hg x u _ I7' rg (stp x Hg yg)) fun _ th0 ⟨σ8, Hh, Ih, hw8, qh8⟩ => ?_
      refine thnF (tP.run _ th0 σ8 Hh _ Ih qh8) fun b tj ⟨Hj, Ij, qh9⟩ => ?_
      -- the trn's end
      have close : ∀ {s' : Shared} {H' : Hp}, Inv (X.blk tc Hc scope cenv cells) ([] ++ pinsAt cells tg0.heap) σ8 H' s' → Nx H' → ∃ m, m < n ∧ ∃ i H', Inv (X.blk tc Hc scope cenv cells) [] (L2.wipe σ (own.map (·.2))) H' s' ∧ tn i s'.heap ∧ (∀ b ∈ cells, H' b = none) ∧ W i m H' := fun {s' H'} I' nx => by
        obtain ⟨m', hm, w'⟩ := hNx H' nx
        have pin' : ∀ b ∈ cells, ∀ o, tg0.heap.get? b = some o → s'.heap.get? b = some o ∧ H' b = none := fun b hb o e =>
          let z := I'.pin (b, o) (List.mem_append_right _ (List.mem_append_right _ (mem_pinsAt hb e)))
          ⟨z.1, z.2.1⟩
        have hl : (L2.wipe σ (own.map (·.2))).length = σ8.length := by rw [← hw8, wipe_length]
        refine ⟨m', hm, i + 1, H', (I'.unpinned (pins := [])).weak hl (fun j v e => ?_), T.keep _ _ _ tn7 fun b hb o e => (pin' b hb o e).1, fun b hb => ?_, w'⟩
        · rw [← hw8] at e
          exact (wipe_some e).1
        · obtain ⟨o, e, _⟩ := T.obj _ _ tn7 b hb
          exact (pin' b hb o e).2
      cases b with
      | false =>
        simp only [Bool.false_eq_true, if_false] at qh9 ⊢
        exact close Ij qh9
      | true =>
        simp only [if_true] at qh9 ⊢
        refine thnF (kP.run _ tj σ8 Hj _ Ij qh9) fun z tk1 ⟨yk, Hk, Ik, rk, qh10⟩ => ?_
        refine thnF (eP.run _ tk1 σ8 Hk _ Ik qh10) fun z2 tl ⟨yv, Hl, Il, rl, Hm, put, nx⟩ => ?_
        exact d_dictSetG (X := X.blk tc Hc scope cenv cells) hu Il put rk rl fun tm Im => close Im nx
  exact codeAny_compStart_dict whole (T.self X.A 0 _ _ _ tn4 whole)
theorem pe_dcG {kx vx tg iter : Expr} {ifs : List Expr} {scope : Scope} {own : List (Str × Nat)} {pos : Pos} {wi : TI} {g : TG} {tt : TT} {tk tv : TE} (t : Bool) (hu : X.A.units + 1 < cLine) (hc : X.calm = true) (hN : X.N.Nodup) (hi : PI X tg iter wi) (ok : BlkOk X.N X.env.scope scope own)
    (hg : ∀ (s : Shared) (H : Hp) (C : Addr) (cl : List (Str × Addr)) (fp : List Addr), PG (X.blk s H scope (compEnvC scope cl C X.env) fp) tg g) (ht : ∀ (s : Shared) (H : Hp) (C : Addr) (cl : List (Str × Addr)) (fp : List Addr), PTs (X.blk s H scope (compEnvC scope cl C X.env) fp) ifs tt)
    (hk : ∀ (s : Shared) (H : Hp) (C : Addr) (cl : List (Str × Addr)) (fp : List Addr), PE (X.blk s H scope (compEnvC scope cl C X.env) fp) kx tk)
    (he : ∀ (s : Shared) (H : Hp) (C : Addr) (cl : List (Str × Addr)) (fp : List Addr), PE (X.blk s H scope (compEnvC scope cl C X.env) fp) vx tv) (hs : ∀ x, foldedSetIterable iter X.env x = pure x := by intro _; rfl) :
    PE X (.DictComp kx vx [⟨tg, iter, ifs, 0⟩] scope pos) (tDcG t wi g tt tk tv (own.map (·.2))) := by
  refine ⟨fun pins s σ H Q I h => ?_⟩
  rw [arm_eval_DictComp]
  exact dcg_core t hu hc hN I hi ok hg ht hk he hs h fun D C s' m H' I' q hn ⟨f0, f1, f2, f3, f4, f5⟩ =>
    ⟨m, hn, fun h'' sb => ⟨.ref D, H', I'.turned (t' := s'.toks) (fun b o hb e => (sb.2 b hb).trans e) f0 f1 f3 f4 f5, rfl, q⟩⟩
end
end L3

/-! L3P: displays of dicts and dict comprehensions as runs. -/
namespace L3
open PySem PySem.Spec L2

/-! ### a display, by values -/
def Puts (p : Addr) : Hp → List (V × V) → Hp → Prop
  | H, [], H' => H' = H
  | H, (y, v) :: r, H' => ∃ H1, DPut H p y v H1 ∧ Puts p H1 r H'
def tDispG (t : Bool) (trs : List (TE × TE)) : TE := fun σ H Q => ∀ p, H p = none → tPairs trs σ (upd H p (dE t)) fun ps H2 => ∃ H3, Puts p H2 ps H3 ∧ Q (.ref p) H3
section
variable {X : Cx}
theorem storeG {pins : List (Addr × Obj)} {σ : L2.St} {p : Addr} {E : Value → Shared → Prop} (hu : X.A.units + 1 < cLine) : ∀ (ps : List (V × V)) (ws : List (Value × Value)), VV ps ws → ∀ (H H3 : Hp) (s : Shared) (Q : PUnit → Shared → Prop), Inv X pins σ H s → Puts p H ps H3 →
    (∀ s', Inv X pins σ H3 s' → Q PUnit.unit s') → wpAny (model X.prog X.w) X.A (forIn ws PUnit.unit fun (x : Value × Value) (_ : PUnit) => (do dictSet p x.1 x.2; pure (ForInStep.yield PUnit.unit) : Sem (ForInStep PUnit))) Q E s
  | _, _, .nil, H, H3, s, Q, I, hp, h => by
    rw [List.forIn_nil]
    rw [show H3 = H from hp] at h
    exact wpAny_pure (h s I)
  | _, _, .cons r rr, H, H3, s, Q, I, hp, h => by
    obtain ⟨H1, put, hp⟩ := hp
    rw [List.forIn_cons]
    exact wpAny_bind (wpAny_bind (d_dictSetG hu I put r.1 r.2 fun s1 I1 => wpAny_pure (storeG hu _ _ rr H1 H3 s1 Q I1 hp h)))
theorem pe_dispG {pos : Pos} {keys : List (Option Expr)} {values : List Expr} {trs : List (TE × TE)} (t : Bool) (hu : X.A.units + 1 < cLine) (h : PPs X pos keys values trs) (hall : keys.all (·.isSome) = true) (hl : keys.length = values.length) (h0 : keys ≠ []) (h15 : keys.length ≤ 15) : PE X (.Dict keys values pos) (tDispG t trs) := by
  refine ⟨fun pins s σ H Q I q => ?_⟩
  have ln := pairTrees_length keys values X.env pos hall hl
  have hn := I.hok.fresh (Nat.le_refl s.heap.objs.size)
  have I1 : Inv X pins σ (upd H s.heap.objs.size (dE t)) { s with heap := s.heap.push { cls := .type "dict", data := .dict #[] } } := I.laid (t' := s.toks) (fun _ _ q => Heap.get?_push_of_some _ q) (Nat.le_refl _) (dE_empty t I.big)
  have run := h.run pins _ σ _ _ I1 (q _ hn)
  rw [arm_eval_Dict, zip_pairTrees keys values X.env pos hall hl, dictDisplay_pairs (pairTrees keys values X.env pos) (fun e => h0 (by rw [e] at ln; exact List.length_eq_zero_iff.mp ln.symm)) (by rw [ln]; omega)]
  refine wpAny_bind (wpAny_standAt (wpAny_bind ?_))
  unfold subDict
  refine wpAny_bind (wpAny_alloc (wpAny_bind (wpAny_holding ?_)))
  rw [if_pos (by rw [ln]; exact h15)]
  refine wpAny_bind (thn run fun ws s2 ⟨ps, H2, I2, rel, H3, put, q2⟩ => ?_)
  refine wpAny_holding (wpAny_bind (storeG hu ps ws rel H2 H3 s2 _ I2 put fun s3 I3 => ?_))
  exact wpAny_pure (wpAny_pure (wpAny_pure ⟨.ref s.heap.objs.size, H3, I3, rfl, q2⟩))
end

/-! ### things that stand beside the objects -/
section
variable {mg : Str → Option Value} {K : PySem.W.Frag} {ι ι0 : List Addr} {g : GH} {H H0 : Hp} {L : Addr}
theorem Rel.besideG {u0 u : HO} (r : Rel mg K ι g H) (hL : H L = some u0) (n1 : ∀ xs, u0 ≠ .tup xs) (n2 : ∀ o x, u0 ≠ .frz o x) (hn : L ∉ ι) :
    (∀ a ys, TpT K H a ys → TpT K (upd H L u) a ys) ∧ (∀ a ys, SqP K H a ys → SqP K (upd H L u) a ys) ∧ Rel mg K ι g (upd H L u) := by
  have t0 : ∀ b xs, H b = some (.tup xs) → b ≠ L := fun b xs q e => by rw [e, hL] at q; exact n1 _ (Option.some.inj q)
  have f0 : ∀ b o x, H b = some (.frz o x) → b ≠ L := fun b o x q e => by rw [e, hL] at q; exact n2 _ _ (Option.some.inj q)
  have hT : ∀ a ys, TpT K H a ys → TpT K (upd H L u) a ys := fun a ys q => by
    refine ⟨?_, fun ne => by rw [upd_ne (t0 _ _ (q.2 ne))]; exact q.2 ne⟩
    rcases q.1 with (q' | ⟨o, q'⟩) | q'
    · exact .inl (.inl (by rw [upd_ne (t0 _ _ q')]; exact q'))
    · exact .inl (.inr ⟨o, by rw [upd_ne (f0 _ _ _ q')]; exact q'⟩)
    · exact .inr q'
  have hP : ∀ a ys, SqP K H a ys → SqP K (upd H L u) a ys := fun a ys q => by
    rcases q with ⟨o, q', ai⟩ | q'
    · exact .inl ⟨o, by rw [upd_ne (f0 _ _ _ q')]; exact q', ai⟩
    · exact .inr q'
  refine ⟨hT, hP, r.len, r.nd, fun n o a h1 h2 => (r.at_ n o a h1 h2).mono (fun _ _ h => h) hT hP fun w hw => ?_⟩
  rw [upd_ne fun e => hn (by rw [← e]; exact List.mem_of_getElem? h2)]
  exact hw
theorem ix_app {κ : List Addr} : ∀ (n : Nat) a, ι[n]? = some a → (ι ++ κ)[n]? = some a := fun n a e => by
  rw [List.getElem?_append_left (List.getElem?_eq_some_iff.mp e).1]; exact e
theorem Step.adoptG {o : O} (s : Step mg K ι0 H0 ι g H) (hn : L ∉ ι) (h0 : H0 L = none) (new : ObjR mg K (ι ++ [L]) H L o) : Step mg K ι0 H0 (ι ++ [L]) (g ++ [o]) H := by
  obtain ⟨κ, hκ⟩ := s.pre
  refine ⟨⟨κ ++ [L], by rw [hκ, List.append_assoc]⟩, ⟨by simp [s.rel.len], ?_, fun n ob a h e => ?_⟩, s.frm, fun b hb k => ?_, s.tup, s.rol, s.frz⟩
  · exact List.nodup_append.mpr ⟨s.rel.nd, by simp, fun a ha b hb => by simp at hb; subst hb; exact fun z => hn (z ▸ ha)⟩
  · by_cases hlt : n < ι.length
    · rw [List.getElem?_append_left hlt] at e
      rw [List.getElem?_append_left (by rw [← s.rel.len]; exact hlt)] at h
      exact (s.rel.at_ n ob a h e).mono ix_app (fun _ _ h => h) (fun _ _ h => h) fun _ h => h
    · have hn' : n = ι.length := by
        have := (List.getElem?_eq_some_iff.mp e).1
        simp at this; omega
      subst hn'
      rw [List.getElem?_append_right (Nat.le_refl _)] at e
      rw [s.rel.len, List.getElem?_append_right (Nat.le_refl _)] at h
      simp at e h
      subst e h
      exact new
  · rcases List.mem_append.mp hb with hb | hb
    · exact s.new b hb k
    · simp at hb; subst hb; exact h0
theorem dctR_shape {u : HO} {t : Bool} {kvs : List (D × D)} (h : DctR K ι H u t kvs) : (∀ xs, u ≠ .tup xs) ∧ ∀ o x, u ≠ .frz o x := by
  rcases h with ⟨_, ps, rfl, _⟩ | ⟨_, ps, rfl, _⟩ <;> exact ⟨fun _ => (nomatch ·), fun _ _ => (nomatch ·)⟩
/-- a store into a dict beside the objects -/
theorem dput_beside (r : Rel mg K ι g H) {u : HO} {t : Bool} {kvs : List (D × D)} {y v : V} {e d : D} (hL : H L = some u) (hn : L ∉ ι) (dc : DctR K ι H u t kvs) (hk : keyOk t e = true) (hl : kvs.length < sizeLine) (he : Den K ι H y e) (hv : Den K ι H v d) :
    ∃ u', DPut H L y v (upd H L u') ∧ DctR K ι (upd H L u') u' t (dPut kvs e d) := by
  obtain ⟨n1, n2⟩ := dctR_shape dc
  rcases dc with ⟨rfl, ps, rfl, pr⟩ | ⟨rfl, ps, rfl, pr⟩
  · cases q : keyK e with
    | none => simp [keyOk, q] at hk
    | some k =>
      have e1 := keyK_spec q
      subst e1
      have hy := den_key he
      subst hy
      obtain ⟨hT, hP, _⟩ := r.besideG (u := .dK (putK ps k v)) hL n1 n2 hn
      exact ⟨_, .inl ⟨ps, k, hL, rfl, by rw [paired_len pr]; exact hl, rfl⟩, .inl ⟨rfl, _, rfl, paired_imp (fun p q h => ⟨h.1, Den.mono (fun _ _ h => h) hT hP _ _ h.2⟩) (paired_put kD (fun a b => kD_inj) pr k hv)⟩⟩
  · cases q : keyT e with
    | none => simp [keyOk, q] at hk
    | some k =>
      obtain ⟨e1, ne⟩ := keyT_spec q
      subst e1
      obtain ⟨b, rfl, hb⟩ := den_tupKey he ne
      obtain ⟨hT, hP, _⟩ := r.besideG (u := .dT (putK ps k v)) hL n1 n2 hn
      exact ⟨_, .inr ⟨ps, k, b, hL, rfl, hb, by rw [paired_len pr]; exact hl, rfl⟩, .inr ⟨rfl, _, rfl, paired_imp (fun p q h => ⟨h.1, Den.mono (fun _ _ h => h) hT hP _ _ h.2⟩) (paired_put (fun ks : List Key => D.tup (ks.map kD)) kT_inj pr k hv)⟩⟩
theorem dE_den {ι : List Addr} {H : Hp} (t : Bool) : DctR K ι H (dE t) t [] := by
  cases t with
  | true => exact .inr ⟨rfl, [], rfl, .nil⟩
  | false => exact .inl ⟨rfl, [], rfl, .nil⟩
end

/-! ### displays -/
def prsM : List (EM × EM) → Rho → GH → R (List (D × D))
  | [], _, g => .ok [] g
  | (a, b) :: r, ρ, g => (a ρ g).bind fun x g1 => (b ρ g1).bind fun y g2 => (prsM r ρ g2).bind fun ps g3 => .ok ((x, y) :: ps) g3
def putsD (n : Nat) : List (D × D) → GH → Option GH
  | [], g => some g
  | (k, v) :: r, g => match opSet (.obj n) k v g with
    | some g1 => putsD n r g1
    | none => none
def mDisp (t : Bool) (ps : List (EM × EM)) : EM := fun ρ g => (prsM ps ρ (g ++ [.dct t []])).bind fun kvs g1 => match g1[g.length]? with
  | some (.dct _ _) => match putsD g.length kvs g1 with
    | some g2 => .ok (.obj g.length) g2
    | none => .bad
  | _ => .bad
/-- the pairs of a display -/
inductive SPs (X : Cx) (W : WX) : List (Option Expr) → List Expr → List (EM × EM) → Prop
  | nil : SPs X W [] [] []
  | cons {k v : Expr} {ks : List (Option Expr)} {vs : List Expr} {a b : EM} {ps : List (EM × EM)} : SE X W k a → SE X W v b → SPs X W ks vs ps → SPs X W (some k :: ks) (v :: vs) ((a, b) :: ps)
section
variable {X : Cx} {W : WX} {pos : Pos}
theorem SPs.pps {ks : List (Option Expr)} {vs : List Expr} {ps : List (EM × EM)} (h : SPs X W ks vs ps) : PPs X pos ks vs (ps.map fun p => (tF X.mg X.K W p.1, tF X.mg X.K W p.2)) := by
  induction h with
  | nil => exact pps_nil
  | cons a b _ ih => exact pps_cons a.pe b.pe ih
theorem SPs.shape {ks : List (Option Expr)} {vs : List Expr} {ps : List (EM × EM)} (h : SPs X W ks vs ps) : ks.all (·.isSome) = true ∧ ks.length = vs.length := by
  induction h with
  | nil => exact ⟨rfl, rfl⟩
  | cons a b _ ih => exact ⟨by simpa using ih.1, by simp [ih.2]⟩
/-- the pairs' run -/
theorem tPairs_run {mg : Str → Option Value} {K : PySem.W.Frag} : ∀ (ps : List (EM × EM)) (σ : L2.St) (ι : List Addr) (g : GH) (ρ : Rho) (H : Hp) (Q : List (V × V) → Hp → Prop), Rel mg K ι g H → EnvR K ι H σ ρ →
    RunX mg K (fun ι H (v : List (V × V)) (d : List (D × D)) => Paired (fun p q => Den K ι H p.1 q.1 ∧ Den K ι H p.2 q.2) v d) (fun c d H' => W c d σ H') ι H Q (prsM ps ρ g) → tPairs (ps.map fun p => (tF mg K W p.1, tF mg K W p.2)) σ H Q
  | [], σ, ι, g, ρ, H, Q, r, hρ, h => h ι H [] (Step.refl r) .nil
  | (a, b) :: ps, σ, ι, g, ρ, H, Q, r, hρ, h => by
    refine ⟨ι, g, ρ, r, hρ, RunX.mono (RunX.bind (Dn := fun ι H v d => Den K ι H v d) h) fun v1 H1 ⟨ι1, g1, d1, s1, hd1, h1⟩ => ?_⟩
    have q1 := hρ.step s1
    refine ⟨ι1, g1, ρ, s1.rel, q1, RunX.mono (RunX.bind (Dn := fun ι H v d => Den K ι H v d) h1) fun v2 H2 ⟨ι2, g2, d2, s2, hd2, h2⟩ => ?_⟩
    refine tPairs_run ps σ ι2 g2 ρ H2 _ s2.rel (q1.step s2) (RunX.mono (RunX.bind h2) fun vs H3 ⟨ι3, g3, ds, s3, hds, h3⟩ => ?_)
    exact h3 ι3 H3 _ (Step.refl s3.rel) (.cons ⟨s3.den (s2.den hd1), s3.den hd2⟩ hds)
theorem puts_run {mg : Str → Option Value} {K : PySem.W.Frag} {n : Nat} {p : Addr} : ∀ (ds : List (D × D)) (vs : List (V × V)) (ι : List Addr) (g g' : GH) (H : Hp), Rel mg K ι g H → ι[n]? = some p → (∃ t kvs, g[n]? = some (.dct t kvs)) → Paired (fun p q => Den K ι H p.1 q.1 ∧ Den K ι H p.2 q.2) vs ds → putsD n ds g = some g' →
    ∃ H', Puts p H vs H' ∧ Step mg K ι H ι g' H'
  | _, _, ι, g, g', H, r, hn, _, .nil, h => by
    cases h
    exact ⟨H, rfl, Step.refl r⟩
  | _, _, ι, g, g', H, r, hn, ⟨t, kvs, e⟩, .cons (a := v) (b := d) (l₁ := vs) (l₂ := ds) q qs, h => by
    obtain ⟨k, w⟩ := d
    obtain ⟨kv, wv⟩ := v
    simp only [putsD, opSet, e] at h
    by_cases hk : keyOk t k = true ∧ kvs.length < sizeLine
    · rw [if_pos hk] at h
      obtain ⟨H1, put, s⟩ := dput_of r e hn hk.1 hk.2 q.1 q.2
      have hlt := (List.getElem?_eq_some_iff.mp e).1
      obtain ⟨H2, p2, s2⟩ := puts_run ds vs ι _ g' H1 s.rel hn ⟨t, _, List.getElem?_set_self hlt⟩ (paired_imp (fun _ _ h => ⟨s.den h.1, s.den h.2⟩) qs) h
      exact ⟨H2, ⟨H1, put, p2⟩, s.trans s2⟩
    · rw [if_neg hk] at h; cases h
theorem se_disp {ks : List (Option Expr)} {vs : List Expr} {ps : List (EM × EM)} (t : Bool) (hu : X.A.units + 1 < cLine) (h : SPs X W ks vs ps) (h0 : ks ≠ [] := by exact fun z => nomatch z) (h15 : ks.length ≤ 15 := by decide) : SE X W (.Dict ks vs pos) (mDisp t ps) :=
  ⟨PE.imp (pe_dispG t hu h.pps h.shape.1 h.shape.2 h0 h15) fun σ H Q ⟨ι, g, ρ, r, hρ, q⟩ => by
    intro p hp
    have s0 : Step X.mg X.K ι H (ι ++ [p]) (g ++ [.dct t []]) (upd H p (dE t)) := Step.lay r hp ⟨_, upd_same, dE_den t⟩
    unfold mDisp at q
    refine tPairs_run ps σ _ _ ρ _ _ s0.rel (hρ.step s0) ?_
    refine RunX.mono (RunX.bind (RunX.step q s0)) fun pvs H1 ⟨ι1, g1, ds, s1, hds, h1⟩ => ?_
    have hn : (ι ++ [p])[g.length]? = some p := by rw [← r.len]; simp
    have hn1 := s1.ix _ _ hn
    cases e1 : g1[g.length]? with
    | none => simp only [e1] at h1; exact h1.elim
    | some o =>
      cases o with
      | dct t' kvs =>
        simp only [e1] at h1
        cases e : putsD g.length ds g1 with
        | none => simp only [e] at h1; exact h1.elim
        | some g2 =>
          simp only [e] at h1
          obtain ⟨H2, put, s2⟩ := puts_run _ _ ι1 g1 g2 H1 s1.rel hn1 ⟨t', kvs, e1⟩ hds e
          exact ⟨H2, put, h1 ι1 H2 _ s2 (.obj (s2.ix _ _ hn1))⟩
      | _ => simp only [e1] at h1; exact h1.elim⟩
end

/-! ### dict comprehensions -/
def dcN (t : Bool) (c : Chk) (tg : Tg) (tt ek ev : EM) (ρ : Rho) : List D → List (D × D) → GH → Option (List (D × D) × GH)
  | [], acc, g => some (acc, g)
  | d :: ds, acc, g => match tgM tg d ρ g with
    | none => none
    | some (ρ1, g1) => match tt ρ1 g1 with
      | .ok (.bl true) g2 => match ek ρ1 g2 with
        | .ok k g3 => match ev ρ1 g3 with
          | .ok v g4 => if chkOk c g4 = true ∧ keyOk t k = true ∧ acc.length < sizeLine then dcN t c tg tt ek ev ρ ds (dPut acc k v) g4 else none
          | _ => none
        | _ => none
      | .ok (.bl false) g2 => if chkOk c g2 = true then dcN t c tg tt ek ev ρ ds acc g2 else none
      | _ => none
def mDc (t : Bool) (im : IM) (tg : Tg) (tt ek ev : EM) (own : List Nat) : EM := fun ρ g => (im ρ g).bind fun p g1 => if chkOk p.2 g1 = true then match dcN t p.2 tg tt ek ev (wipeD ρ own) p.1 [] g1 with
  | some (kvs, g2) => .ok (.obj g2.length) (g2 ++ [.dct t kvs])
  | none => .bad
  else .bad
section
variable {X : Cx} {W : WX} {im : IM} {tg : Tg} {mt mk mv : EM}
theorem tF_dc {mg : Str → Option Value} {K : PySem.W.Frag} {t : Bool} {vs : List Nat} (hm : ∀ i ∈ tgS tg, i ∈ vs) : ∀ σ H Q, tF mg K W (mDc t im tg mt mk mv vs) σ H Q → tDcG t (tFI mg K W im) (tgH K tg) (tFT mg K W0 mt) (tF mg K W0 mk) (tF mg K W0 mv) vs σ H Q := fun σ Hs Q ⟨ιs, g, ρ, r, hρ, h⟩ => by
  refine ⟨ιs, g, ρ, r, hρ, ?_⟩
  unfold mDc at h
  cases ei : im ρ g with
  | bad => rw [ei] at h; exact h
  | ex c fs g1 => rw [ei] at h; exact h
  | ok p g1 =>
    obtain ⟨ds, c⟩ := p
    rw [ei] at h
    simp only [R.bind_ok] at h
    intro ι0 H0 J s0 jok L hL
    by_cases hck : chkOk c g1 = true
    · rw [if_pos hck] at h
      cases el : dcN t c tg mt mk mv (wipeD ρ vs) ds [] g1 with
      | none => simp only [el] at h; exact h.elim
      | some q =>
        obtain ⟨es, gE⟩ := q
        simp only [el] at h
        refine ⟨fun i n H => n = ds.length - i ∧ i ≤ ds.length ∧ ∃ ι g acc u, Step mg K ι0 H0 ι g H ∧ chkOk c g = true ∧ H L = some u ∧ L ∉ ι ∧ DctR K ι H u t acc ∧ dcN t c tg mt mk mv (wipeD ρ vs) (ds.drop i) acc g = some (es, gE),
          ⟨ds.length, by simp, Nat.zero_le _, ι0, g1, [], dE t, Step.side s0.rel hL, hck, upd_same, fun m => ?_, dE_den t, by rw [List.drop_zero]; exact el⟩, ?_⟩
        · obtain ⟨u, hu, _⟩ := s0.rel.there m
          rw [hL] at hu; cases hu
        · rintro i n H ⟨rfl, hi, ι, g, acc, u, s, hc2, hH, hLn, hacc, h2⟩
          obtain ⟨j1, j2⟩ := jok i ι g H s hc2
          by_cases hlt : i < ds.length
          · have hd : ds[i]? = some ds[i] := List.getElem?_eq_getElem hlt
            have hdrop : ds.drop i = ds[i] :: ds.drop (i + 1) := List.drop_eq_getElem_cons hlt
            rw [hdrop] at h2
            obtain ⟨go, yl⟩ := j1 _ hd
            refine .inr ⟨go, fun H' => i + 1 ≤ ds.length ∧ ∃ ι g acc u, Step mg K ι0 H0 ι g H' ∧ chkOk c g = true ∧ H' L = some u ∧ L ∉ ι ∧ DctR K ι H' u t acc ∧ dcN t c tg mt mk mv (wipeD ρ vs) (ds.drop (i + 1)) acc g = some (es, gE),
              fun H' q => ⟨ds.length - (i + 1), by omega, rfl, q.1, q.2⟩, fun x H' y => ?_⟩
            obtain ⟨s1, hx⟩ := yl x H' y
            have keep : ∀ {ι2 g2 H2}, Step mg K ι H ι2 g2 H2 → H2 L = some u ∧ L ∉ ι2 := fun {ι2 g2 H2} z => by
              refine ⟨z.frm _ _ hH hLn, fun m => ?_⟩
              have := z.new _ m hLn
              rw [hH] at this; cases this
            have dcS : ∀ {ι2 g2 H2}, Step mg K ι H ι2 g2 H2 → DctR K ι2 H2 u t acc := fun {ι2 g2 H2} z => hacc.mono z.ix z.tup z.rol
            unfold dcN at h2
            cases et : tgM tg ds[i] (wipeD ρ vs) g with
            | none => simp only [et] at h2; cases h2
            | some q =>
              obtain ⟨ρ1, g2⟩ := q
              simp only [et] at h2
              have ρw : EnvR K ι H' (L2.wipe σ vs) (wipeD ρ vs) := ((hρ.step s0).step (s.trans s1)).wipe vs
              refine tg_run s1.rel hm ρw hx et fun eg σ2 e2 hw => ⟨by rw [hw]; exact wipe_none σ vs vs fun _ h => h, ?_⟩
              subst eg
              refine ⟨ι, g2, ρ1, s1.rel, e2, ?_⟩
              unfold asB
              cases em : mt ρ1 g2 with
              | bad => simp only [em] at h2; cases h2
              | ex _ _ _ => simp only [em] at h2; cases h2
              | ok tv g3 =>
                simp only [em] at h2
                cases tv with
                | bl bb =>
                  intro ι3 H3 bv s3 hb
                  cases hb
                  cases bb with
                  | false =>
                    rw [if_neg (by decide)]
                    simp only at h2
                    by_cases hk : chkOk c g3 = true
                    · rw [if_pos hk] at h2
                      have z := keep (s1.trans s3)
                      exact ⟨hlt, ι3, g3, acc, u, (s.trans s1).trans s3, hk, z.1, z.2, dcS (s1.trans s3), h2⟩
                    · rw [if_neg hk] at h2; cases h2
                  | true =>
                    rw [if_pos rfl]
                    simp only at h2
                    refine ⟨ι3, g3, ρ1, s3.rel, e2.step s3, ?_⟩
                    cases ek : mk ρ1 g3 with
                    | bad => simp only [ek] at h2; cases h2
                    | ex _ _ _ => simp only [ek] at h2; cases h2
                    | ok kd g4 =>
                      simp only [ek] at h2
                      intro ι4 H4 yk s4 hyk
                      refine ⟨ι4, g4, ρ1, s4.rel, (e2.step s3).step s4, ?_⟩
                      cases ee : mv ρ1 g4 with
                      | bad => simp only [ee] at h2; cases h2
                      | ex _ _ _ => simp only [ee] at h2; cases h2
                      | ok vd g5 =>
                        simp only [ee] at h2
                        intro ι5 H5 zv s5 hzv
                        by_cases hk : chkOk c g5 = true ∧ keyOk t kd = true ∧ acc.length < sizeLine
                        · rw [if_pos hk] at h2
                          have all := ((s1.trans s3).trans s4).trans s5
                          have z := keep all
                          obtain ⟨u', put, dc'⟩ := dput_beside s5.rel z.1 z.2 (dcS all) hk.2.1 hk.2.2 (s5.den hyk) hzv
                          obtain ⟨n1, n2⟩ := dctR_shape (dcS all)
                          obtain ⟨hT, hP, rl⟩ := s5.rel.besideG (u := u') z.1 n1 n2 z.2
                          have base := s.trans all
                          refine ⟨_, put, hlt, ι5, g5, _, u', ⟨base.pre, rl, fun b o h1 h2 => ?_, base.new, fun a ys q => hT _ _ (base.tup _ _ q), fun a ys q => hP _ _ (base.rol _ _ q), fun b o x q => ?_⟩, hk.1, upd_same, z.2, dc', h2⟩
                          · rw [upd_ne fun e => by rw [e, hL] at h1; cases h1]
                            exact base.frm b o h1 h2
                          · have q' := base.frz b o x q
                            rw [upd_ne fun e => by rw [e, z.1] at q'; exact n2 _ _ (Option.some.inj q')]
                            exact q'
                        · rw [if_neg hk] at h2; cases h2
                | _ => simp only at h2; cases h2
          · have hi' : i = ds.length := by omega
            subst hi'
            rw [List.drop_length] at h2
            simp only [dcN, Option.some.injEq, Prod.mk.injEq] at h2
            obtain ⟨rfl, rfl⟩ := h2
            refine .inl ⟨j2 rfl, ?_⟩
            have hL0 : Hs L = none := by
              cases e : Hs L with
              | none => rfl
              | some o =>
                by_cases hm : L ∈ ιs
                · obtain ⟨κ, hκ⟩ := s0.pre
                  obtain ⟨u, hu, _⟩ := s0.rel.there (a := L) (by rw [hκ]; exact List.mem_append_left _ hm)
                  rw [hL] at hu; cases hu
                · rw [s0.frm _ _ e hm] at hL; cases hL
            exact h _ _ _ ((s0.trans s).adoptG hLn hL0 ⟨u, hH, hacc.mono ix_app (fun _ _ h => h) (fun _ _ h => h)⟩) (.obj (by rw [← s.rel.len]; simp))
    · rw [if_neg hck] at h; exact h.elim
variable {kx vx te iter : Expr} {ifs : List Expr} {scope : Scope} {own : List (Str × Nat)} {pos : Pos}
theorem se_dc (t : Bool) (hu : X.A.units + 1 < cLine) (hc : X.calm = true) (hN : X.N.Nodup) (ok : BlkOk X.N X.env.scope scope own) (hm : ∀ i ∈ tgS tg, i ∈ own.map (·.2)) (hi : SI X W te iter im)
    (hg : ∀ (s : Shared) (H : Hp) (C : Addr) (cl : List (Str × Addr)) (fp : List Addr), SH (X.blk s H scope (compEnvC scope cl C X.env) fp) te tg)
    (ht : ∀ (s : Shared) (H : Hp) (C : Addr) (cl : List (Str × Addr)) (fp : List Addr), STs (X.blk s H scope (compEnvC scope cl C X.env) fp) ifs mt)
    (hk : ∀ (s : Shared) (H : Hp) (C : Addr) (cl : List (Str × Addr)) (fp : List Addr), SE (X.blk s H scope (compEnvC scope cl C X.env) fp) W0 kx mk)
    (he : ∀ (s : Shared) (H : Hp) (C : Addr) (cl : List (Str × Addr)) (fp : List Addr), SE (X.blk s H scope (compEnvC scope cl C X.env) fp) W0 vx mv)
    (hs : ∀ x, foldedSetIterable iter X.env x = pure x := by intro _; rfl) : SE X W (.DictComp kx vx [⟨te, iter, ifs, 0⟩] scope pos) (mDc t im tg mt mk mv (own.map (·.2))) :=
  ⟨PE.imp (pe_dcG t hu hc hN hi.pi ok (fun s H C cl fp => (hg s H C cl fp).pg) (fun s H C cl fp => (ht s H C cl fp).pts) (fun s H C cl fp => (hk s H C cl fp).pe) (fun s H C cl fp => (he s H C cl fp).pe) hs) (tF_dc hm)⟩
end
end L3

/-! L3Q: name = {.. for ..} on one line. -/
namespace L3
open PySem PySem.Spec PyProof.Rows L2
section
variable {X : Cx}
theorem ps_setDcG {i : Nat} {y : Str} {py : Pos} {kx vx tg iter : Expr} {ifs : List Expr} {scope : Scope} {own : List (Str × Nat)} {pos spos : Pos} {wi : TI} {g : TG} {tt : TT} {tk tv : TE} (t : Bool) (hu : X.A.units + 1 < cLine) (hc : X.calm = true) (hN : X.N.Nodup) (hy : X.N[i]? = some y) (hyl : X.env.scope.names.lookup y = some .local)
    (hsw : swapsWith (.DictComp kx vx [⟨tg, iter, ifs, 0⟩] scope pos) (some (.Name y py)) spos.line X.env = pure true) (hi : PI X tg iter wi) (ok : BlkOk X.N X.env.scope scope own)
    (hg : ∀ (s : Shared) (H : Hp) (C : Addr) (cl : List (Str × Addr)) (fp : List Addr), PG (X.blk s H scope (compEnvC scope cl C X.env) fp) tg g) (ht : ∀ (s : Shared) (H : Hp) (C : Addr) (cl : List (Str × Addr)) (fp : List Addr), PTs (X.blk s H scope (compEnvC scope cl C X.env) fp) ifs tt)
    (hk : ∀ (s : Shared) (H : Hp) (C : Addr) (cl : List (Str × Addr)) (fp : List Addr), PE (X.blk s H scope (compEnvC scope cl C X.env) fp) kx tk)
    (he : ∀ (s : Shared) (H : Hp) (C : Addr) (cl : List (Str × Addr)) (fp : List Addr), PE (X.blk s H scope (compEnvC scope cl C X.env) fp) vx tv) (hs : ∀ x, foldedSetIterable iter X.env x = pure x := by intro _; rfl) :
    PS X (.Assign [.Name y py] (.DictComp kx vx [⟨tg, iter, ifs, 0⟩] scope pos) spos) (tAsg (tDcG t wi g tt tk tv (own.map (·.2))) (gName i)) := by
  refine ⟨fun pins s σ H D I h => ?_⟩
  rw [exec_Assign_Name_used _ _ _ _ hsw]
  refine wpAny_bind (wpAny_standAt (wpAny_bind ?_))
  show wpAny _ X.A (do let _ ← comprehension (.DictComp kx vx [⟨tg, iter, ifs, 0⟩] scope pos) scope X.env (firstIterPos [⟨tg, iter, ifs, 0⟩] pos) newDict false (eval iter X.env) (some (assign (.Name y py) X.env))) _ _ s
  have h' : tDcG t wi g tt tk tv (own.map (·.2)) σ H (fun x H1 => gName i x σ H1 D.nx) := h
  refine wpAny_bind (thn (dcg_core t hu (Qf := fun _ s' => SP X pins D .next s') hc hN I hi ok hg ht hk he hs h' fun L C s' m H' I' q hn f => ?_) fun _ s' hq => wpAny_pure (wpAny_pure hq))
  obtain ⟨f0, f1, f2, f3, f4, f5⟩ := f
  refine wpAny_assign_Name (store_ok2 (v := V.ref L) I' hN hy (.inl hyl) rfl (fun s2 I2 ⟨a, sb, ha⟩ => ⟨m, hn.sameBut sb ?_, fun h3 sb3 => ?_⟩) (.inr hyl))
  · rcases ha with z | z
    · rw [z]; exact f1
    · exact fun e => f4 y a z e.symm
  · exact ⟨_, H', I2.turned (t' := s2.toks) (fun b o hb e => (sb3.2 b hb).trans e) f0 f1 f3 f4 f5, q⟩
variable {W : WX} {kx vx tg iter : Expr} {ifs : List Expr} {scope : Scope} {own : List (Str × Nat)} {im : IM} {tgt : Tg} {mt mk mv : EM} {pos : Pos}
theorem ss_setDc (i : Nat) {y : Str} {py spos : Pos} (t : Bool) (hu : X.A.units + 1 < cLine) (hc : X.calm = true) (hN : X.N.Nodup) (ok : BlkOk X.N X.env.scope scope own) (hm : ∀ i ∈ tgS tgt, i ∈ own.map (·.2)) (hi : SI X W tg iter im)
    (hg : ∀ (s : Shared) (H : Hp) (C : Addr) (cl : List (Str × Addr)) (fp : List Addr), SH (X.blk s H scope (compEnvC scope cl C X.env) fp) tg tgt)
    (ht : ∀ (s : Shared) (H : Hp) (C : Addr) (cl : List (Str × Addr)) (fp : List Addr), STs (X.blk s H scope (compEnvC scope cl C X.env) fp) ifs mt)
    (hk : ∀ (s : Shared) (H : Hp) (C : Addr) (cl : List (Str × Addr)) (fp : List Addr), SE (X.blk s H scope (compEnvC scope cl C X.env) fp) W0 kx mk)
    (he : ∀ (s : Shared) (H : Hp) (C : Addr) (cl : List (Str × Addr)) (fp : List Addr), SE (X.blk s H scope (compEnvC scope cl C X.env) fp) W0 vx mv)
    (hy : X.N[i]? = some y := by rfl) (hyl : X.env.scope.names.lookup y = some .local := by rfl) (hsw : swapsWith (.DictComp kx vx [⟨tg, iter, ifs, 0⟩] scope pos) (some (.Name y py)) spos.line X.env = pure true := by rfl)
    (hs : ∀ x, foldedSetIterable iter X.env x = pure x := by intro _; rfl) : SS X W (.Assign [.Name y py] (.DictComp kx vx [⟨tg, iter, ifs, 0⟩] scope pos) spos) (sAsg (mDc t im tgt mt mk mv (own.map (·.2))) (gNm i)) :=
  ⟨PS.imp (ps_setDcG t hu hc hN hy hyl hsw hi.pi ok (fun s H C cl fp => (hg s H C cl fp).pg) (fun s H C cl fp => (ht s H C cl fp).pts) (fun s H C cl fp => (hk s H C cl fp).pe) (fun s H C cl fp => (he s H C cl fp).pe) hs) fun D σ H ⟨ι, g, ρ, r, hρ, h⟩ => by
    refine tF_dc hm σ H _ ⟨ι, g, ρ, r, hρ, RunX.mono (RunS.bind (Dm := fun ι H v d => Den X.K ι H v d) hρ h) fun v H1 ⟨ι1, g1, d, s1, hd, h1⟩ => ?_⟩
    exact h1 ι1 H1 _ (Step.refl s1.rel) ((hρ.step s1).set i hd)⟩
end
end L3

/-! L3R: the end: what the head tells, by places in its lists. -/
namespace L3
open PySem PySem.Spec L2
open PyProof.Rows (envOfC)

section
variable {P : Program} {w : World} {K : PySem.W.Frag} {mg : Str → Option Value} {base : Heap}
/-- THE RULE: a def by its body's function -/
theorem fnOkD {x qual : Str} {params : Arguments} {body : List Stmt} {scope : Scope} {dvs : List V} {kws : List (Str × V)} {f : Addr} {fd : FuncData} {N ps : List Str} {k : Nat} {m : SM} (F : FunD K x qual params body scope dvs kws f fd) (S : FnScope N ps scope)
    (hbody : ∀ (cdv : Value) (A : Around) (outer : List Env) (s : Shared) (H : Hp) (E : XK), Room k (A.deeper (envOfC qual scope s.heap.objs.size f cdv)) →
      SSs (cxOf (L2.CX P w) P w K mg base N qual scope f cdv A outer s H E) (fun cls d _ H => E cls d H) body m) :
    FnOk P w K mg base (L2.CX P w) (k + 1) f fd ps (spF mg K ps.length (fnM N.length m)) := by
  refine F.ok S spF_len fun cdv A outer s H vs Q E hr ⟨ι, g, ds, hl, r, hd, h⟩ => ⟨_, (hbody cdv A outer s H E hr).ps, ?_⟩
  refine ⟨ι, g, _, r, envR_start hd N, ?_⟩
  unfold fnM at h
  show RunS mg K _ _ ι H _
  cases e : m (ds.map some ++ List.replicate (N.length - ds.length) none) g with
  | ok fl g' =>
    rw [e] at h
    cases fl with
    | rt d => exact h
    | nx ρ => exact fun ι' H' σ' s' _ => h ι' H' .non s' .non
    | bk ρ => exact h.elim
    | ct ρ => exact h.elim
  | ex c fs ρ g' => rw [e] at h; exact fun ι' H' σ' cls dx s' _ x => h ι' H' cls dx s' x
  | bad => rw [e] at h; exact h
theorem hu1 {A : Around} {k : Nat} (hr : Room k A) : A.units + 1 < cLine := by have := hr.un; omega
theorem hu17 {A : Around} {k : Nat} (hr : Room k A) : A.units + 17 < cLine := by have := hr.un; omega
theorem hu18 {A : Around} {k : Nat} (hr : Room k A) : A.units + 18 < cLine := by have := hr.un; omega
theorem hu64 {A : Around} {k : Nat} (hr : Room k A) : A.units + 64 < cLine := by have := hr.un; omega
theorem hu65 {A : Around} {k : Nat} (hr : Room k A) : A.units + 65 < cLine := by have := hr.un; omega
end
section
variable {X : Cx} {W : WX} {pos p : Pos} {e : Expr} {m : EM} {kvs : List (Str × D)} {x : Str} {a : Addr}
theorem st_kdIn (hg : Gl X x) (hm : X.mg x = some (.ref a)) (D : KD X.K X.w a kvs) (he : SE X W e m) (hd : (x == ("__debug__" : Str)) = false := by decide) (hn : behindInMarks .In (.Name x p) = false := by rfl) : ST X W (.Compare e [.In] [.Name x p] pos) (mKdIn kvs false m) := by
  obtain ⟨es, n, kd⟩ := D.at_
  refine ⟨PT.imp (pt_cmpR (op_in_kd kd) he.pe (pe_glob (v := .ref a) hg hm rfl hd) hn) fun σ H Q h => ?_⟩
  obtain ⟨ι, g, ρ, r, hρ, h⟩ := tFT_of σ H Q h
  refine ⟨ι, g, ρ, r, hρ, RunX.mono (RunX.bind (Dn := fun ι H v d => Den X.K ι H v d) h) fun v H1 ⟨ι1, g1, d, s1, hd, h1⟩ => ?_⟩
  cases hd with
  | str z =>
    obtain ⟨r, h2, h3⟩ := kd_some D z
    exact ⟨z, r, rfl, rfl, h2, by rw [h3]; exact h1 ι1 H1 _ (Step.refl s1.rel) (.bl _)⟩
  | _ => exact h1.elim
theorem st_kdNotIn (hg : Gl X x) (hm : X.mg x = some (.ref a)) (D : KD X.K X.w a kvs) (he : SE X W e m) (hd : (x == ("__debug__" : Str)) = false := by decide) (hn : behindInMarks .NotIn (.Name x p) = false := by rfl) : ST X W (.Compare e [.NotIn] [.Name x p] pos) (mKdIn kvs true m) := by
  obtain ⟨es, n, kd⟩ := D.at_
  refine ⟨PT.imp (pt_cmpR (op_notIn_kd kd) he.pe (pe_glob (v := .ref a) hg hm rfl hd) hn) fun σ H Q h => ?_⟩
  obtain ⟨ι, g, ρ, r, hρ, h⟩ := tFT_of σ H Q h
  refine ⟨ι, g, ρ, r, hρ, RunX.mono (RunX.bind (Dn := fun ι H v d => Den X.K ι H v d) h) fun v H1 ⟨ι1, g1, d, s1, hd, h1⟩ => ?_⟩
  cases hd with
  | str z =>
    obtain ⟨r, h2, h3⟩ := kd_some D z
    exact ⟨z, r, rfl, rfl, h2, by rw [h3]; exact h1 ι1 H1 _ (Step.refl s1.rel) (.bl _)⟩
  | _ => exact h1.elim
end

/-! ### what the head tells -/
structure Bg (fa : List He.Fa) (fn : List He.DefD) (ts : List He.Tab) (w : World) (K : PySem.W.Frag) (mg : Str → Option Value) (h : Heap) : Prop where
  X : K.In h
  G : h.Ns mainGlobals mg
  c : He.SaysT fa fn ts w K
section
variable {fa : List He.Fa} {fn : List He.DefD} {ts : List He.Tab} {w : World} {K : PySem.W.Frag} {mg : Str → Option Value} {h : Heap}
theorem Bg.glo (b : Bg fa fn ts w K mg h) (i : Nat) {x : Str} (e : fa[i]? = some (.glo x) := by rfl) : mg x = some (.ref (He.ga K x)) := He.glo_ok b.X b.G (b.c.d.fact i e)
theorem Bg.free (b : Bg fa fn ts w K mg h) (i : Nat) {x : Str} (e : fa[i]? = some (.free x) := by rfl) : mg x = none := He.free_ok b.X b.G (b.c.d.fact i e)
theorem Bg.int (b : Bg fa fn ts w K mg h) (i : Nat) {x : Str} {n : Int} (e : fa[i]? = some (.int x n) := by rfl) : ∃ t, mg x = some (.int n t) := He.int_ok b.X b.G (b.c.d.fact i e)
theorem Bg.str (b : Bg fa fn ts w K mg h) (i : Nat) {x z : Str} (e : fa[i]? = some (.str x z) := by rfl) : ∃ t, mg x = some (.str z t) := He.str_ok b.X b.G (b.c.d.fact i e)
theorem Bg.cls (b : Bg fa fn ts w K mg h) (i : Nat) {x : Str} (e : fa[i]? = some (.cls x) := by rfl) : Cls K (He.ga K x) := He.cls_ok (b.c.d.fact i e)
theorem Bg.noat (b : Bg fa fn ts w K mg h) (i : Nat) {x f : Str} (e : fa[i]? = some (.noat x f) := by rfl) : NoAttr K (He.ga K x) f := He.noat_ok (b.c.d.fact i e)
theorem Bg.meth (b : Bg fa fn ts w K mg h) (i : Nat) {x m : Str} (e : fa[i]? = some (.meth x m) := by rfl) : Meth K (He.ga K x) m (He.fAd K (x, some m)) := He.meth_ok (b.c.d.fact i e)
theorem Bg.mkr (b : Bg fa fn ts w K mg h) (i : Nat) {x : Str} (e : fa[i]? = some (.mkr x) := by rfl) : Mk K (He.ga K x) (He.fAd K (x, some "__init__")) := He.mkr_ok (b.c.d.fact i e)
theorem Bg.fld (b : Bg fa fn ts w K mg h) (i j k : Nat) {x f : Str} (e1 : fa[i]? = some (.glo x) := by rfl) (e2 : fa[j]? = some (.cls x) := by rfl) (e3 : fa[k]? = some (.noat x f) := by rfl) : FldOk mg K [x] f := fun c hc C hC => by
  cases List.mem_singleton.mp hc
  rw [b.glo i e1] at hC
  cases hC
  exact ⟨b.cls j e2, b.noat k e3⟩
end
/-- a written dict of ints -/
theorem kd_of {K : PySem.W.Frag} {w : World} {a : Addr} {kvs : List (Str × Int)} (h1 : He.dicW K a = some (He.keysIn w.params (kvs.map (·.1)))) (h2 : He.valsB K a (kvs.map fun p => (p.1, .int p.2)) = true) : KD K w a (kvs.map fun p => (p.1, .int p.2)) := by
  obtain ⟨es, n, kd⟩ := He.dicW_ok h1
  refine ⟨⟨es, n, kd⟩, fun z => ?_⟩
  have keys : es.toList.map He.keyOf = He.keysIn w.params (kvs.map (·.1)) := by
    unfold He.dicW at h1
    rw [kd.at_] at h1
    simp only at h1
    split at h1
    · exact Option.some.inj h1
    · cases h1
  cases e : kdGet (kvs.map fun p => (p.1, (.int p.2 : D))) z with
  | some d =>
    unfold kdGet at e
    rw [List.find?_map] at e
    cases q : kvs.find? ((fun p => decide (p.1 = z)) ∘ fun p => (p.1, (D.int p.2))) with
    | none => rw [q] at e; cases e
    | some p =>
      rw [q] at e
      have hp := List.mem_of_find?_eq_some q
      have hz : p.1 = z := by have := List.find?_some q; simpa using this
      obtain ⟨u, h3, h4⟩ := He.valsB_ok h2 (List.mem_map.mpr ⟨p, hp, rfl⟩)
      subst hz
      refine ⟨_, h3, (fun z => nomatch z), fun d' hd' => ⟨u, _, rfl, h4, fun ι H => ?_⟩⟩
      cases hd'
      cases e
      exact .int _
  | none =>
    refine ⟨none, ?_, fun _ => rfl, fun d hd => nomatch hd⟩
    have hno : ∀ p ∈ kvs, p.1 ≠ z := fun p hp ez => by
      unfold kdGet at e
      rw [List.find?_map] at e
      cases q : kvs.find? ((fun p => decide (p.1 = z)) ∘ fun p => (p.1, (D.int p.2))) with
      | some _ => rw [q] at e; cases e
      | none =>
        have := List.find?_eq_none.mp q p hp
        simp [ez] at this
    have hk : ∀ en ∈ es.toList, ∃ x t, en.key = .str x t ∧ x ∈ kvs.map (·.1) := fun en hen => by
      have : He.keyOf en ∈ es.toList.map He.keyOf := List.mem_map.mpr ⟨en, hen, rfl⟩
      rw [keys] at this
      unfold He.keysIn at this
      obtain ⟨x, hx, ex⟩ := List.mem_map.mp this
      unfold He.keyOf at ex
      split at ex
      · rename_i y t ey
        simp only [Option.some.injEq, Prod.mk.injEq] at ex
        exact ⟨y, t, ey, by rw [← ex.1]; exact hx⟩
      · cases ex
    unfold PySem.W.nsIn
    rw [kd.at_]
    simp only
    have f0 : es.toList.find? (fun en => en.key.isStr z) = none := by
      rw [List.find?_eq_none]
      intro en hen
      obtain ⟨x, t, ey, hx⟩ := hk en hen
      obtain ⟨p, hp, rfl⟩ := List.mem_map.mp hx
      rw [ey]
      simpa [Value.isStr] using hno p hp
    rw [f0]
    have f1 : es.toList.any (fun en => en.refKey) = false := by
      rw [List.any_eq_false]
      intro en hen
      obtain ⟨x, t, ey, hx⟩ := hk en hen
      simp [DictEntry.refKey, ey]
    simp only [f1]
    rfl
end L3
namespace L3
open PySem PySem.Spec L2
theorem bb_isinstance : bootBuiltins "isinstance" = some (.builtin "isinstance") := by decide +kernel
theorem bb_len : bootBuiltins "len" = some (.builtin "len") := by decide +kernel
theorem bb_abs : bootBuiltins "abs" = some (.builtin "abs") := by decide +kernel
theorem bb_all : bootBuiltins "all" = some (.builtin "all") := by decide +kernel
theorem bb_any : bootBuiltins "any" = some (.builtin "any") := by decide +kernel
theorem bb_sum : bootBuiltins "sum" = some (.builtin "sum") := by decide +kernel
theorem bb_min : bootBuiltins "min" = some (.builtin "min") := by decide +kernel
theorem bb_max : bootBuiltins "max" = some (.builtin "max") := by decide +kernel
theorem bb_sorted : bootBuiltins "sorted" = some (.builtin "sorted") := by decide +kernel
theorem bt_int : bootBuiltins "int" = some (.type "int") := by decide +kernel
theorem bt_bool : bootBuiltins "bool" = some (.type "bool") := by decide +kernel
theorem bt_str : bootBuiltins "str" = some (.type "str") := by decide +kernel
theorem bt_tuple : bootBuiltins "tuple" = some (.type "tuple") := by decide +kernel
theorem bt_list : bootBuiltins "list" = some (.type "list") := by decide +kernel
theorem bt_dict : bootBuiltins "dict" = some (.type "dict") := by decide +kernel
end L3

/-! L3S: calls over the arguments' own objects alone; what is left behind is dropped. -/
namespace L3
open PySem PySem.Spec L2

/-! ### other numbers for the objects -/
mutual
def renD (f : Nat → Option Nat) : D → Option D
  | .non => some .non
  | .bl b => some (.bl b)
  | .int i => some (.int i)
  | .str x => some (.str x)
  | .tup ds => (renDs f ds).map .tup
  | .obj n => (f n).map .obj
  | .rol ds => (renDs f ds).map .rol
def renDs (f : Nat → Option Nat) : List D → Option (List D)
  | [] => some []
  | d :: ds => match renD f d, renDs f ds with
    | some d', some ds' => some (d' :: ds')
    | _, _ => none
end
def renKV (f : Nat → Option Nat) : List (D × D) → Option (List (D × D))
  | [] => some []
  | (k, v) :: r => match renD f v, renKV f r with
    | some v', some r' => some ((k, v') :: r')
    | _, _ => none
def renF (f : Nat → Option Nat) : List (Str × D) → Option (List (Str × D))
  | [] => some []
  | (k, v) :: r => match renD f v, renF f r with
    | some v', some r' => some ((k, v') :: r')
    | _, _ => none
def renO (f : Nat → Option Nat) : O → Option O
  | .lst ds => (renDs f ds).map .lst
  | .dct t kvs => (renKV f kvs).map (.dct t)
  | .ins c fs => (renF f fs).map (.ins c)
  | .frz (.lst ds) => (renDs f ds).map fun ds => .frz (.lst ds)
  | .frz (.dct t kvs) => (renKV f kvs).map fun kvs => .frz (.dct t kvs)
  | .frz _ => none
section
variable {mg : Str → Option Value} {K : PySem.W.Frag} {ι κ : List Addr} {H : Hp} {f : Nat → Option Nat}
mutual
theorem renD_den (hf : ∀ n m a, f n = some m → ι[n]? = some a → κ[m]? = some a) : ∀ (d d' : D) (v : V), renD f d = some d' → Den K ι H v d → Den K κ H v d'
  | .non, _, _, e, h => by cases e; cases h; exact .non
  | .bl b, _, _, e, h => by cases e; cases h; exact .bl b
  | .int b, _, _, e, h => by cases e; cases h; exact .int b
  | .str b, _, _, e, h => by cases e; cases h; exact .str b
  | .tup ds, d', _, e, h => by
    cases h with
    | tup a b =>
      cases q : renDs f ds with
      | none => simp [renD, q] at e
      | some es =>
        simp [renD, q] at e
        subst e
        exact .tup a (renDs_den hf ds es _ q b)
  | .obj n, d', _, e, h => by
    cases h with
    | obj a =>
      cases q : f n with
      | none => simp [renD, q] at e
      | some m =>
        simp [renD, q] at e
        subst e
        exact .obj (hf n m _ q a)
  | .rol ds, d', _, e, h => by
    cases h with
    | rol a b =>
      cases q : renDs f ds with
      | none => simp [renD, q] at e
      | some es =>
        simp [renD, q] at e
        subst e
        exact .rol a (renDs_den hf ds es _ q b)
theorem renDs_den (hf : ∀ n m a, f n = some m → ι[n]? = some a → κ[m]? = some a) : ∀ (ds ds' : List D) (vs : List V), renDs f ds = some ds' → DenAll K ι H vs ds → DenAll K κ H vs ds'
  | [], _, _, e, h => by cases e; cases h; exact .nil
  | d :: ds, _, _, e, h => by
    cases h with
    | cons a b =>
      unfold renDs at e
      cases q1 : renD f d with
      | none => rw [q1] at e; cases e
      | some d1 =>
        cases q2 : renDs f ds with
        | none => rw [q1, q2] at e; cases e
        | some ds1 =>
          rw [q1, q2] at e
          cases e
          exact .cons (renD_den hf d d1 _ q1 a) (renDs_den hf ds ds1 _ q2 b)
end
theorem renKV_den {α : Type} {g : α → D} (hf : ∀ n m a, f n = some m → ι[n]? = some a → κ[m]? = some a) : ∀ {ps : List (α × V)} {kvs kvs' : List (D × D)}, Paired (fun (p : α × V) (q : D × D) => q.1 = g p.1 ∧ Den K ι H p.2 q.2) ps kvs → renKV f kvs = some kvs' →
    Paired (fun (p : α × V) (q : D × D) => q.1 = g p.1 ∧ Den K κ H p.2 q.2) ps kvs'
  | _, _, _, .nil, e => by cases e; exact .nil
  | _, (k, v) :: r, _, .cons a b, e => by
    unfold renKV at e
    cases q1 : renD f v with
    | none => rw [q1] at e; cases e
    | some v' =>
      cases q2 : renKV f r with
      | none => rw [q1, q2] at e; cases e
      | some r' =>
        rw [q1, q2] at e
        cases e
        exact .cons ⟨a.1, renD_den hf _ _ _ q1 a.2⟩ (renKV_den hf b q2)
theorem renF_den (hf : ∀ n m a, f n = some m → ι[n]? = some a → κ[m]? = some a) : ∀ {ps : List (Str × V)} {fs fs' : List (Str × D)}, FldR K ι H ps fs → renF f fs = some fs' → FldR K κ H ps fs'
  | _, _, _, .nil, e => by cases e; exact .nil
  | _, (k, v) :: r, _, .cons a b, e => by
    unfold renF at e
    cases q1 : renD f v with
    | none => rw [q1] at e; cases e
    | some v' =>
      cases q2 : renF f r with
      | none => rw [q1, q2] at e; cases e
      | some r' =>
        rw [q1, q2] at e
        cases e
        exact .cons ⟨a.1, renD_den hf _ _ _ q1 a.2⟩ (renF_den hf b q2)
theorem renDct (hf : ∀ n m a, f n = some m → ι[n]? = some a → κ[m]? = some a) {u : HO} {t : Bool} {kvs kvs' : List (D × D)} (e : renKV f kvs = some kvs') (h : DctR K ι H u t kvs) : DctR K κ H u t kvs' := by
  rcases h with ⟨z, ps, eu, r⟩ | ⟨z, ps, eu, r⟩
  · exact .inl ⟨z, ps, eu, renKV_den hf r e⟩
  · exact .inr ⟨z, ps, eu, renKV_den (g := fun ks : List Key => D.tup (ks.map kD)) hf r e⟩
theorem renO_den (hf : ∀ n m a, f n = some m → ι[n]? = some a → κ[m]? = some a) {a : Addr} {o o' : O} (e : renO f o = some o') (h : ObjR mg K ι H a o) : ObjR mg K κ H a o' := by
  cases o with
  | lst ds =>
    cases q : renDs f ds with
    | none => simp [renO, q] at e
    | some es =>
      simp [renO, q] at e
      subst e
      obtain ⟨xs, h1, h2⟩ := h
      exact ⟨xs, h1, renDs_den hf _ _ _ q h2⟩
  | dct t kvs =>
    cases q : renKV f kvs with
    | none => simp [renO, q] at e
    | some es =>
      simp [renO, q] at e
      subst e
      obtain ⟨u, h1, h2⟩ := h
      exact ⟨u, h1, renDct hf q h2⟩
  | ins c fs =>
    cases q : renF f fs with
    | none => simp [renO, q] at e
    | some es =>
      simp [renO, q] at e
      subst e
      obtain ⟨C, dx, ps, h1, h2, h3⟩ := h
      exact ⟨C, dx, ps, h1, h2, renF_den hf h3 q⟩
  | frz o =>
    cases o with
    | lst ds =>
      cases q : renDs f ds with
      | none => simp [renO, q] at e
      | some es =>
        simp [renO, q] at e
        subst e
        obtain ⟨ob, xs, h1, h2, h3⟩ := h
        exact ⟨ob, xs, h1, renDs_den hf _ _ _ q h2, h3⟩
    | dct t kvs =>
      cases q : renKV f kvs with
      | none => simp [renO, q] at e
      | some es =>
        simp [renO, q] at e
        subst e
        obtain ⟨ob, u, h1, h2⟩ := h
        exact ⟨ob, u, h1, renDct hf q h2⟩
    | ins _ _ => exact h.elim
    | frz _ => exact h.elim
end

/-! ### what is reached -/
mutual
def objsD : D → List Nat
  | .tup ds => objsDs ds
  | .obj n => [n]
  | .rol ds => objsDs ds
  | _ => []
def objsDs : List D → List Nat
  | [] => []
  | d :: ds => objsD d ++ objsDs ds
end
def objsO : O → List Nat
  | .lst ds => objsDs ds
  | .dct _ kvs => kvs.flatMap fun p => objsD p.2
  | .ins _ fs => fs.flatMap fun p => objsD p.2
  | .frz o => objsO o
def grow (g : GH) : Nat → List Nat → List Nat → List Nat
  | 0, acc, _ => acc
  | _ + 1, acc, [] => acc
  | k + 1, acc, n :: r => if n ∈ acc then grow g k acc r else grow g k (acc ++ [n]) ((match g[n]? with
    | some o => objsO o
    | none => []) ++ r)
def ixOf (ns : List Nat) (n : Nat) : Option Nat := ns.idxOf? n
def mapO {α β : Type} (f : α → Option β) : List α → Option (List β)
  | [] => some []
  | a :: r => match f a, mapO f r with
    | some b, some r' => some (b :: r')
    | _, _ => none
/-- the objects at ns, renamed -/
def pick (f : Nat → Option Nat) (g : GH) (ns : List Nat) : Option (List O) := mapO (fun n => match g[n]? with
  | some o => renO f o
  | none => none) ns
/-- objects put back -/
def back : List Nat → List O → GH → GH
  | n :: ns, o :: os, g => back ns os (g.set n o)
  | _, _, g => g
/-- where the numbers of the call's heap lie in the caller's: the lent ones, then the kept ones -/
def homeIx (ns ks : List Nat) (base : Nat) (n : Nat) : Option Nat := if n < ns.length then ns[n]? else (ixOf ks n).map fun i => base + i
def lentOf (ds : List D) (g : GH) : List Nat := grow g 100000 [] (objsDs ds)
def keptOf (m : Nat) (g : GH) (d : D) : List Nat := (grow g 100000 [] (objsD d ++ (g.take m).flatMap objsO)).filter fun n => decide (m ≤ n)
def callL (M : FM) (n : Nat) (ds : List D) (g1 : GH) : R D :=
  let ns := lentOf ds g1
  if ds.length = n ∧ ns.Nodup then match renDs (ixOf ns) ds, pick (ixOf ns) g1 ns with
    | some ds0, some g0 => match M ds0 g0 with
      | .ok d g2 =>
        let ks := keptOf ns.length g2 d
        if ks.Nodup ∧ ∀ k ∈ ks, ns.length ≤ k then match renD (homeIx ns ks g1.length) d, pick (homeIx ns ks g1.length) g2 (List.range ns.length), pick (homeIx ns ks g1.length) g2 ks with
          | some d', some os, some os' => .ok d' (back ns os g1 ++ os')
          | _, _, _ => .bad
        else .bad
      | .ex c fs g2 => match pick (homeIx ns [] g1.length) g2 (List.range ns.length), renF (homeIx ns [] g1.length) fs with
        | some os, some fs' => .ex c fs' (back ns os g1)
        | _, _ => .bad
      | .bad => .bad
    | _, _ => .bad
  else .bad
def mCallL (M : FM) (n : Nat) (a : AM) : EM := fun ρ g => (a ρ g).bind fun ds g1 => callL M n ds g1

theorem mapO_get {α β : Type} {f : α → Option β} : ∀ {l : List α} {r : List β}, mapO f l = some r → r.length = l.length ∧ ∀ (i : Nat) a, l[i]? = some a → ∃ b, f a = some b ∧ r[i]? = some b
  | [], r, h => by cases h; exact ⟨rfl, fun i a e => by simp at e⟩
  | a :: l, r, h => by
    unfold mapO at h
    cases q1 : f a with
    | none => rw [q1] at h; cases h
    | some b =>
      cases q2 : mapO f l with
      | none => rw [q1, q2] at h; cases h
      | some r' =>
        rw [q1, q2] at h
        cases h
        obtain ⟨l1, l2⟩ := mapO_get q2
        refine ⟨by simp [l1], fun i a' e => ?_⟩
        cases i with
        | zero => simp at e; subst e; exact ⟨b, q1, rfl⟩
        | succ i => simpa using l2 i a' (by simpa using e)
theorem mapO_make {α β : Type} {f : α → Option β} : ∀ {l : List α}, (∀ a ∈ l, ∃ b, f a = some b) → ∃ r, mapO f l = some r
  | [], _ => ⟨[], rfl⟩
  | a :: l, h => by
    obtain ⟨b, hb⟩ := h a List.mem_cons_self
    obtain ⟨r, hr⟩ := mapO_make (l := l) fun x hx => h x (List.mem_cons_of_mem _ hx)
    exact ⟨b :: r, by simp [mapO, hb, hr]⟩
theorem back_len : ∀ (ns : List Nat) (os : List O) (g : GH), (back ns os g).length = g.length
  | [], os, g => by simp [back]
  | n :: ns, [], g => by simp [back]
  | n :: ns, o :: os, g => by simp [back, back_len ns os]
theorem back_out : ∀ (ns : List Nat) (os : List O) (g : GH) (j : Nat), j ∉ ns → (back ns os g)[j]? = g[j]?
  | [], os, g, j, _ => by simp [back]
  | n :: ns, [], g, j, _ => by simp [back]
  | n :: ns, o :: os, g, j, h => by
    rw [back, back_out ns os _ j fun z => h (List.mem_cons_of_mem _ z), List.getElem?_set_ne fun z => h (by rw [z]; exact List.mem_cons_self)]
theorem back_in : ∀ (ns : List Nat) (os : List O) (g : GH) (i j : Nat) (o : O), ns.Nodup → ns[i]? = some j → os[i]? = some o → j < g.length → (back ns os g)[j]? = some o
  | [], os, g, i, j, o, _, h, _, _ => by simp at h
  | n :: ns, [], g, i, j, o, _, _, h, _ => by simp at h
  | n :: ns, p :: os, g, 0, j, o, nd, h1, h2, h3 => by
    simp at h1 h2
    subst h1 h2
    rw [back, back_out ns os _ n (List.nodup_cons.mp nd).1, List.getElem?_set_self h3]
  | n :: ns, p :: os, g, i + 1, j, o, nd, h1, h2, h3 => by
    rw [back]
    exact back_in ns os _ i j o (List.nodup_cons.mp nd).2 (by simpa using h1) (by simpa using h2) (by simpa using h3)
theorem ixOf_get {ns : List Nat} {n i : Nat} (h : ixOf ns n = some i) : ns[i]? = some n := by
  unfold ixOf at h
  rw [List.idxOf?_eq_some_iff] at h
  obtain ⟨h1, h2, _⟩ := h
  rw [List.getElem?_eq_getElem h1, h2]
theorem nodup_at' {l : List Nat} (nd : l.Nodup) {i j : Nat} (hi : i < l.length) (hj : j < l.length) (e : l[i] = l[j]) : i = j := by
  rcases Nat.lt_trichotomy i j with h | h | h
  · exact absurd e ((List.pairwise_iff_getElem.mp nd) i j hi hj h)
  · exact h
  · exact absurd e.symm ((List.pairwise_iff_getElem.mp nd) j i hj hi h)
theorem nodup_map {ι κ : List Addr} {ns : List Nat} (nd : ns.Nodup) (ni : ι.Nodup) (h : mapO (fun n => ι[n]?) ns = some κ) : κ.Nodup := by
  obtain ⟨h1, h2⟩ := mapO_get h
  refine List.pairwise_iff_getElem.mpr fun i j hi hj hij e => ?_
  have hi' : i < ns.length := by omega
  have hj' : j < ns.length := by omega
  obtain ⟨a, ha, ra⟩ := h2 i _ (List.getElem?_eq_getElem hi')
  obtain ⟨b, hb, rb⟩ := h2 j _ (List.getElem?_eq_getElem hj')
  rw [List.getElem?_eq_getElem hi] at ra
  rw [List.getElem?_eq_getElem hj] at rb
  cases ra
  cases rb
  obtain ⟨l1, q1⟩ := List.getElem?_eq_some_iff.mp ha
  obtain ⟨l2, q2⟩ := List.getElem?_eq_some_iff.mp hb
  have := nodup_at ni l1 l2 (by rw [q1, q2, e])
  have := nodup_at' nd hi' hj' this
  omega
section
variable {mg : Str → Option Value} {K : PySem.W.Frag} {ι ι2 κ0 : List Addr} {g1 g0 g2 : GH} {H H2 : Hp} {ns ks : List Nat} {os os' : List O}
theorem lent_at (hk : mapO (fun n => ι[n]?) ns = some κ0) {i n : Nat} (h : ns[i]? = some n) : ∃ a, ι[n]? = some a ∧ κ0[i]? = some a := (mapO_get hk).2 i n h
theorem lent_rel (r : Rel mg K ι g1 H) (nd : ns.Nodup) (hp : pick (ixOf ns) g1 ns = some g0) : ∃ κ0, mapO (fun n => ι[n]?) ns = some κ0 ∧ Rel mg K κ0 g0 H ∧ ∀ n m a, ixOf ns n = some m → ι[n]? = some a → κ0[m]? = some a := by
  obtain ⟨p1, p2⟩ := mapO_get hp
  obtain ⟨κ0, hk⟩ : ∃ κ0, mapO (fun n => ι[n]?) ns = some κ0 := mapO_make fun n hn => by
    obtain ⟨i, hi, e⟩ := List.mem_iff_getElem.mp hn
    obtain ⟨o, ho, _⟩ := p2 i n (by rw [List.getElem?_eq_getElem hi, e])
    have : n < g1.length := by
      cases q : g1[n]? with
      | none => rw [q] at ho; cases ho
      | some _ => exact (List.getElem?_eq_some_iff.mp q).1
    exact ⟨_, List.getElem?_eq_getElem (by rw [r.len]; exact this)⟩
  have hf : ∀ n m a, ixOf ns n = some m → ι[n]? = some a → κ0[m]? = some a := fun n m a h1 h2 => by
    obtain ⟨b, hb, hb'⟩ := lent_at hk (ixOf_get h1)
    rw [h2] at hb
    cases hb
    exact hb'
  obtain ⟨k1, k2⟩ := mapO_get hk
  refine ⟨κ0, hk, ⟨by omega, nodup_map nd r.nd hk, fun i o a h1 h2 => ?_⟩, hf⟩
  have hi : i < ns.length := by rw [← k1]; exact (List.getElem?_eq_some_iff.mp h2).1
  obtain ⟨o', ho', e1⟩ := p2 i _ (List.getElem?_eq_getElem hi)
  rw [h1] at e1
  cases e1
  obtain ⟨b, hb, e2⟩ := k2 i _ (List.getElem?_eq_getElem hi)
  rw [h2] at e2
  cases e2
  cases q : g1[ns[i]]? with
  | none => rw [q] at ho'; cases ho'
  | some o1 =>
    rw [q] at ho'
    exact renO_den hf ho' (r.at_ _ o1 a q hb)
/-- the caller's heap behind such a call -/
theorem home_step (r : Rel mg K ι g1 H) (nd : ns.Nodup) (hk : mapO (fun n => ι[n]?) ns = some κ0) (s : Step mg K κ0 H ι2 g2 H2) (ndk : ks.Nodup) (hks : ∀ k ∈ ks, ns.length ≤ k)
    (ho : pick (homeIx ns ks g1.length) g2 (List.range ns.length) = some os) (ho' : pick (homeIx ns ks g1.length) g2 ks = some os') :
    ∃ κ1, Step mg K ι H (ι ++ κ1) (back ns os g1 ++ os') H2 ∧ (∀ n m a, homeIx ns ks g1.length n = some m → ι2[n]? = some a → (ι ++ κ1)[m]? = some a) ∧ (ks = [] → κ1 = []) := by
  obtain ⟨k1, k2⟩ := mapO_get hk
  obtain ⟨o1, o2⟩ := mapO_get ho
  obtain ⟨p1, p2⟩ := mapO_get ho'
  have l2 := s.rel.len
  obtain ⟨κ1, hk1⟩ : ∃ κ1, mapO (fun n => ι2[n]?) ks = some κ1 := mapO_make fun n hn => by
    obtain ⟨i, hi, e⟩ := List.mem_iff_getElem.mp hn
    obtain ⟨o, hq, _⟩ := p2 i n (by rw [List.getElem?_eq_getElem hi, e])
    have : n < g2.length := by
      cases q : g2[n]? with
      | none => rw [q] at hq; cases hq
      | some _ => exact (List.getElem?_eq_some_iff.mp q).1
    exact ⟨_, List.getElem?_eq_getElem (by rw [l2]; exact this)⟩
  obtain ⟨q1, q2⟩ := mapO_get hk1
  have hf : ∀ n m a, homeIx ns ks g1.length n = some m → ι2[n]? = some a → (ι ++ κ1)[m]? = some a := fun n m a h1 h2 => by
    unfold homeIx at h1
    by_cases hn : n < ns.length
    · rw [if_pos hn] at h1
      obtain ⟨b, hb, hb'⟩ := k2 n m h1
      have := s.ix n b hb'
      rw [h2] at this
      cases this
      exact ix_app m _ hb
    · rw [if_neg hn] at h1
      cases e : ixOf ks n with
      | none => rw [e] at h1; cases h1
      | some i =>
        rw [e] at h1
        simp at h1
        subst h1
        obtain ⟨b, hb, hb'⟩ := q2 i n (ixOf_get e)
        rw [h2] at hb
        cases hb
        rw [List.getElem?_append_right (by rw [r.len]; omega), r.len]
        simpa using hb'
  have far : ∀ a ∈ κ1, a ∈ ι2 ∧ a ∉ κ0 := fun a ha => by
    obtain ⟨i, hi, e⟩ := List.mem_iff_getElem.mp ha
    have hi' : i < ks.length := by omega
    obtain ⟨b, hb, hb'⟩ := q2 i _ (List.getElem?_eq_getElem hi')
    rw [List.getElem?_eq_getElem hi, e] at hb'
    cases hb'
    refine ⟨List.mem_of_getElem? hb, fun m => ?_⟩
    obtain ⟨j, hj, e2⟩ := List.mem_iff_getElem.mp m
    have h3 := s.ix j a (by rw [List.getElem?_eq_getElem hj, e2])
    obtain ⟨m1, e3⟩ := List.getElem?_eq_some_iff.mp hb
    obtain ⟨m2, e4⟩ := List.getElem?_eq_some_iff.mp h3
    have := nodup_at s.rel.nd m1 m2 (by rw [e3, e4])
    have := hks _ (List.getElem_mem hi')
    omega
  have sub0 : ∀ a ∈ κ0, a ∈ ι := fun a ha => by
    obtain ⟨i, hi, e⟩ := List.mem_iff_getElem.mp ha
    obtain ⟨b, hb, hb'⟩ := k2 i _ (List.getElem?_eq_getElem (by omega))
    rw [List.getElem?_eq_getElem hi, e] at hb'
    cases hb'
    exact List.mem_of_getElem? hb
  have none1 : ∀ a ∈ κ1, H a = none := fun a ha => s.new a (far a ha).1 (far a ha).2
  have keep : ∀ b o, H b = some o → b ∉ κ0 → H2 b = some o := s.frm
  refine ⟨κ1, ⟨⟨κ1, rfl⟩, ⟨?_, ?_, fun j o a h1 h2 => ?_⟩, fun b o h1 h2 => keep b o h1 fun m => h2 (sub0 b m), fun b h1 h2 => ?_, s.tup, s.rol, s.frz⟩, hf, fun e => ?_⟩
  · rw [List.length_append, List.length_append, back_len, r.len, p1, q1]
  · refine List.nodup_append.mpr ⟨r.nd, nodup_map ndk s.rel.nd hk1, fun a ha b hb e => ?_⟩
    subst e
    obtain ⟨u, hu, _⟩ := r.there ha
    rw [none1 a hb] at hu; cases hu
  · by_cases hj : j < ι.length
    · rw [List.getElem?_append_left hj] at h2
      rw [List.getElem?_append_left (by rw [back_len, ← r.len]; exact hj)] at h1
      by_cases hm : j ∈ ns
      · obtain ⟨i, hi, e⟩ := List.mem_iff_getElem.mp hm
        have hin : ns[i]? = some j := by rw [List.getElem?_eq_getElem hi, e]
        obtain ⟨ob, hob, eo⟩ := o2 i i (by rw [List.getElem?_range hi])
        rw [back_in ns os g1 i j ob nd hin eo (by rw [← r.len]; exact hj)] at h1
        cases h1
        obtain ⟨b, hb, hb'⟩ := k2 i j hin
        rw [h2] at hb
        cases hb
        cases q : g2[i]? with
        | none => rw [q] at hob; cases hob
        | some o1 =>
          rw [q] at hob
          exact renO_den hf hob (s.rel.at_ i o1 a q (s.ix i a hb'))
      · rw [back_out ns os g1 j hm] at h1
        refine (r.at_ j o a h1 h2).mono ix_app s.tup s.rol fun u hu => keep a u hu fun m => ?_
        obtain ⟨i, hi, e⟩ := List.mem_iff_getElem.mp m
        obtain ⟨b, hb, hb'⟩ := k2 i _ (List.getElem?_eq_getElem (by omega))
        rw [List.getElem?_eq_getElem hi, e] at hb'
        cases hb'
        obtain ⟨m1, e3⟩ := List.getElem?_eq_some_iff.mp hb
        obtain ⟨m2, e4⟩ := List.getElem?_eq_some_iff.mp h2
        have := nodup_at r.nd m1 m2 (by rw [e3, e4])
        exact hm (by rw [← this]; exact List.getElem_mem _)
    · rw [List.getElem?_append_right (by omega)] at h2
      rw [List.getElem?_append_right (by rw [back_len, ← r.len]; omega), back_len, ← r.len] at h1
      have hi : j - ι.length < ks.length := by
        have := (List.getElem?_eq_some_iff.mp h2).1
        omega
      obtain ⟨ob, hob, eo⟩ := p2 _ _ (List.getElem?_eq_getElem hi)
      rw [h1] at eo
      cases eo
      obtain ⟨b, hb, hb'⟩ := q2 _ _ (List.getElem?_eq_getElem hi)
      rw [h2] at hb'
      cases hb'
      cases q : g2[ks[j - ι.length]]? with
      | none => rw [q] at hob; cases hob
      | some o1 =>
        rw [q] at hob
        exact renO_den hf hob (s.rel.at_ _ o1 a q hb)
  · rcases List.mem_append.mp h1 with h1 | h1
    · exact absurd h1 h2
    · exact none1 b h1
  · subst e
    cases hk1
    rfl
end
section
variable {X : Cx} {W : WX} {k : Nat} {f : Addr} {fd : FuncData} {ps : List Str} {n : Nat} {M : FM} {x : Str} {p pos : Pos} {e : Expr} {es : List Expr} {ma : AM}
theorem callL_run {E : L2.St → XK} {σ : L2.St} {ι1 : List Addr} {g1 : GH} {H1 : Hp} {vs : List V} {ds : List D} {Q : VK} (r1 : Rel X.mg X.K ι1 g1 H1) (hds : DenAll X.K ι1 H1 vs ds) (h1 : RunE X.mg X.K (fun c d H' => W c d σ H') ι1 H1 Q (callL M n ds g1)) : spF X.mg X.K n M vs H1 Q (WE W σ) := by
  unfold callL at h1
  simp only at h1
  generalize lentOf ds g1 = ns at h1
  by_cases hc : ds.length = n ∧ ns.Nodup
  · rw [if_pos hc] at h1
    cases e1 : renDs (ixOf ns) ds with
    | none => simp only [e1] at h1; exact h1.elim
    | some ds0 =>
      cases e2 : pick (ixOf ns) g1 ns with
      | none => simp only [e1, e2] at h1; exact h1.elim
      | some g0 =>
        simp only [e1, e2] at h1
        obtain ⟨κ0, hκ, r0, hf0⟩ := lent_rel r1 hc.2 e2
        have hd0 := renDs_den hf0 ds ds0 vs e1 hds
        refine ⟨κ0, g0, ds0, by rw [← hd0.length, hds.length]; exact hc.1, r0, hd0, ?_⟩
        cases em : M ds0 g0 with
        | bad => simp only [em] at h1; exact h1.elim
        | ok d g2 =>
          simp only [em] at h1
          intro ι2 H2 v s hd
          generalize keptOf ns.length g2 d = ks at h1
          by_cases hq : ks.Nodup ∧ ∀ k ∈ ks, ns.length ≤ k
          · rw [if_pos hq] at h1
            cases e3 : renD (homeIx ns ks g1.length) d with
            | none => simp only [e3] at h1; exact h1.elim
            | some d' =>
              cases e4 : pick (homeIx ns ks g1.length) g2 (List.range ns.length) with
              | none => simp only [e3, e4] at h1; exact h1.elim
              | some os =>
                cases e5 : pick (homeIx ns ks g1.length) g2 ks with
                | none => simp only [e3, e4, e5] at h1; exact h1.elim
                | some os' =>
                  simp only [e3, e4, e5] at h1
                  obtain ⟨κ1, st, hf1, _⟩ := home_step r1 hc.2 hκ s hq.1 hq.2 e4 e5
                  exact h1 _ H2 v st (renD_den hf1 d d' v e3 hd)
          · rw [if_neg hq] at h1; exact h1.elim
        | ex c fs g2 =>
          simp only [em] at h1
          intro ι2 H2 cls dx s hx
          cases e3 : pick (homeIx ns [] g1.length) g2 (List.range ns.length) with
          | none => simp only [e3] at h1; exact h1.elim
          | some os =>
            cases e4 : renF (homeIx ns [] g1.length) fs with
            | none => simp only [e3, e4] at h1; exact h1.elim
            | some fs' =>
              simp only [e3, e4] at h1
              obtain ⟨κ1, st, hf1, hn⟩ := home_step (ks := []) (os' := []) r1 hc.2 hκ s List.nodup_nil (fun k hk => by cases hk) e3 rfl
              rw [hn rfl, List.append_nil, List.append_nil] at st
              rw [hn rfl, List.append_nil] at hf1
              refine h1 _ H2 cls dx st ?_
              obtain ⟨C, c1, c2, c3⟩ := hx
              refine ⟨C, c1, c2, ?_⟩
              rcases c3 with ⟨rfl, rfl⟩ | ⟨a, ps, rfl, h3, h4⟩
              · cases e4
                exact .inl ⟨rfl, rfl⟩
              · exact .inr ⟨a, ps, rfl, h3, renF_den hf1 h4 e4⟩
  · rw [if_neg hc] at h1; exact h1.elim
/-- f(..), told of the arguments' own objects alone -/
theorem se_callL (F : FnOk X.prog X.w X.K X.mg X.base (L2.CX X.prog X.w) k f fd ps (spF X.mg X.K n M)) (hr : Room k X.A) (hm : X.mg x = some (.ref f)) (hk : PySem.W.keepIn X.K (.ref f) = true) (hb : Binds X.K fd ps []) (tk : Takes X W)
    (ha : SA X W (e :: es) ma) (hg : Gl X x := by rfl) (hdb : (x == ("__debug__" : Str)) = false := by decide) (he : starEach (e :: es) X.env = (false, eval e X.env) :: starEach es X.env := by rfl) (hpl : (backTo pos (starEach es X.env)).any (·.1) = false := by rfl) :
    SE X W (.Call (.Name x p) (e :: es) [] pos) (mCallL M n ma) := ⟨PE.imp (pe_callSD (dvs := []) (ds := []) F hr hg hm hk hb .nil (fun σ => passAt tk σ) ha.pa hdb he hpl) fun σ H Q ⟨ι, g, ρ, r, hρ, h⟩ => by
  refine ⟨ι, g, ρ, r, hρ, RunX.mono (RunX.bind (Dn := fun ι H v d => DenAll X.K ι H v d) h) fun vs H1 ⟨ι1, g1, ds, s1, hds, h1⟩ => ?_⟩
  rw [List.append_nil]
  exact callL_run (E := fun _ => WE W σ) s1.rel hds h1⟩
/-- f() -/
theorem se_callL0 (F : FnOk X.prog X.w X.K X.mg X.base (L2.CX X.prog X.w) k f fd [] (spF X.mg X.K 0 M)) (hr : Room k X.A) (hm : X.mg x = some (.ref f)) (hk : PySem.W.keepIn X.K (.ref f) = true) (hb : Binds X.K fd [] []) (tk : Takes X W)
    (hg : Gl X x := by rfl) (hdb : (x == ("__debug__" : Str)) = false := by decide) : SE X W (.Call (.Name x p) [] [] pos) (mCallL M 0 mNil) := ⟨⟨fun pins s σ H Q I ⟨ι, g, ρ, r, hρ, h⟩ => by
  refine wpAny_Call_Name_kw (ld_glob I hg hm ?_ hdb)
  refine PySem.W.callWith_K0 I.kIn hk (run_fnSD (us := []) (vs := []) (dvs := []) (ds := []) (E := WE W) F hr hb .nil (passAt tk σ) I .nil ?_)
  exact callL_run (n := 0) (ds := []) (E := fun _ => WE W σ) r .nil h⟩⟩
end
/-- a call of nothing that says True -/
theorem callL_true {M : FM} {g g' : GH} (h : M [] [] = .ok (.bl true) g') : callL M 0 [] g = .ok (.bl true) g := by
  unfold callL
  simp [lentOf, objsDs, grow, renDs, pick, mapO, h, keptOf, objsD, renD, back]
theorem mCallL0_true {M : FM} {g' : GH} (h : M [] [] = .ok (.bl true) g') (ρ : Rho) (g : GH) : mCallL M 0 mNil ρ g = .ok (.bl true) g := callL_true h
theorem mAnd_true {a b : EM} {ρ : Rho} {g g1 : GH} {r : R D} (ha : a ρ g = .ok (.bl true) g1) (hb : b ρ g1 = r) : mAnd a b ρ g = r := by
  unfold mAnd; rw [ha]; exact hb
theorem sRet_ok {m : EM} {ρ : Rho} {g g1 : GH} {d : D} (h : m ρ g = .ok d g1) : sRet m ρ g = .ok (.rt d) g1 := by
  unfold sRet; rw [h]; rfl
theorem seq_rt {a b : SM} {ρ : Rho} {d : D} {g g' : GH} (h : a ρ g = .ok (.rt d) g') : sSeq a b ρ g = .ok (.rt d) g' := by
  unfold sSeq; rw [h]; rfl
theorem fnM_rt {N : Nat} {B : SM} {ds : List D} {g g' : GH} {d : D} (h : B (ds.map some ++ List.replicate (N - ds.length) none) g = .ok (.rt d) g') : fnM N B ds g = .ok d g' := by
  unfold fnM; rw [h]
theorem seq_nx {a b : SM} {ρ ρ' : Rho} {g g' : GH} (h : a ρ g = .ok (.nx ρ') g') : sSeq a b ρ g = b ρ' g' := by
  unfold sSeq; rw [h]; rfl
end L3

/-! L3T: the law's start. -/
namespace L3
open PySem PySem.Spec L2
theorem ints_denAll {K : PySem.W.Frag} {ι : List Addr} {H : Hp} : ∀ ns : List Int, DenAll K ι H (ns.map V.int) (ns.map D.int)
  | [] => .nil
  | n :: ns => .cons (.int n) (ints_denAll ns)
theorem sp_start {mg : Str → Option Value} {K : PySem.W.Frag} {M : FM} {H : Hp} {a : Addr} {ns : List Int} (hO : Only H) (hS : SqL K H a (ns.map V.int)) (h : ∃ g', M [.rol (ns.map .int)] [] = .ok (.bl true) g') :
    spF mg K 1 M [.ref a] H (fun v _ => v = .bl true) fun _ _ _ => False := by
  obtain ⟨g', h⟩ := h
  have hp : SqP K H a (ns.map V.int) := by
    rcases hS with (q | ⟨o, q⟩) | q
    · rcases hO a with z | ⟨o, xs, z⟩
      · rw [z] at q; cases q
      · rw [z] at q; cases q
    · refine .inl ⟨o, q, fun x hx => ?_⟩
      obtain ⟨i, _, rfl⟩ := List.mem_map.mp hx
      exact ⟨i, rfl⟩
    · exact .inr q
  refine ⟨[], [], [.rol (ns.map .int)], rfl, ⟨rfl, List.nodup_nil, fun n o a e => by simp at e⟩, .cons (.rol hp (ints_denAll ns)) .nil, ?_⟩
  rw [h]
  intro ι' H' v _ hv
  cases hv
  rfl
theorem cx_no {P : Program} {w : World} (H : Hp) (s : Shared) (e : Value) (s' : Shared) : L2.CX P w [] H s (fun _ _ _ => False) e s' → False := by
  rintro ⟨a, B, H', cls, d, ea, fl, hok, ub, na, os, ag, he⟩
  exact he
theorem walk_l3 {l : PySem.W.OpenLaw} {n k : Nat} {q : Program} {loose : List Str} {XP : (Str → Option Value) → Heap → Prop} {YP : World → Heap → Prop} {d : DefRec} {x : Str} {M : FM}
    (hn : l.most = some n) (hn2 : n ≤ sizeLine) (hdf : d.params.defaults = []) (hr : Room k callerA) (hM : ∀ ns : List Int, ns.length ≤ n → ∃ g', M [.rol (ns.map .int)] [] = .ok (.bl true) g')
    (F : ∀ (w : World) (mg : Str → Option Value) (fa : Addr) (h : Heap), YP w h → h.Ns mainGlobals mg → mg d.name = some (.ref fa) → ∃ (K : PySem.W.Frag) (fd : FuncData), K.In h ∧ (∀ (s : Shared) (u : Value), BindsTo s fd ⟨[u], []⟩ [(x, u)]) ∧
      ∀ base : Heap, K.In base → base.Ns mainGlobals mg → FnOk l.prog w K mg base (L2.CX l.prog w) k fa fd [x] (spF mg K 1 M)) : PySem.W.WalkO q loose XP YP l.row.toRowW d [] (fun f vs => PySem.call f vs) := by
  refine Att.attach_call hn hdf fun w s₀ s₁ mg mb fa o pm cd doc a vs ns G Y ho hd hcd hmg hobj hints hlen hg => ?_
  obtain ⟨K, fd, KX, hb, hF⟩ := F w mg fa _ Y G.T.g hmg
  exact law_call KX G.T.g G.T.b G.T.builtins G.T.nolimit hg hobj hints (Nat.le_trans hlen hn2) hr hF hb (fun H hO hS => sp_start hO hS (hM ns hlen)) fun H e s' => cx_no H s₁ e s'
end L3

/-! L3U: dict comprehensions of two clauses. -/
namespace L3
open PySem PySem.Spec PyProof.Rows L2

theorem dTurnOut (kx vx t0 i0 t1 i1 : Expr) (ifs0 ifs1 : List Expr) (scope : Scope) (pos : Pos) (it acc : Value) (env : Env) :
    compTurn (.DictComp kx vx [⟨t0, i0, ifs0, 0⟩, ⟨t1, i1, ifs1, 0⟩] scope pos) 0 it acc env = (do
      standAt i0.pos
      match ← pyNext it with
      | none => pure (.done .next)
      | some v =>
        letOwnedTupleGo t0 it v
        assign t0 env v
        let mut ok := true
        for c in ifs0 do
          if ok then ok ← isTrue c env (eval c env)
        if ok then
          let x ← eval i1 env
          standAt i1.pos
          let x ← foldedSetIterable i1 env x
          let _ ← runOwn (.compStart (.DictComp kx vx [⟨t0, i0, ifs0, 0⟩, ⟨t1, i1, ifs1, 0⟩] scope pos) 1 (← holding [x] (pyIter x)) acc env) env
        again (.compLoop (.DictComp kx vx [⟨t0, i0, ifs0, 0⟩, ⟨t1, i1, ifs1, 0⟩] scope pos) 0 it acc env)) := by rfl
theorem dTurnIn (kx vx t0 i0 t1 i1 : Expr) (ifs0 ifs1 : List Expr) (scope : Scope) (pos : Pos) (it : Value) (D : Addr) (env : Env) :
    compTurn (.DictComp kx vx [⟨t0, i0, ifs0, 0⟩, ⟨t1, i1, ifs1, 0⟩] scope pos) 1 it (.ref D) env = (do
      standAt i1.pos
      match ← pyNext it with
      | none => pure (.done .next)
      | some v =>
        letOwnedTupleGo t1 it v
        assign t1 env v
        let mut ok := true
        for c in ifs1 do
          if ok then ok ← isTrue c env (eval c env)
        if ok then
          (do
            let kv ← eval kx env
            let vv ← holding [kv] (eval vx env)
            standAt { kx.pos with endLine := vx.pos.endLine, endCol := vx.pos.endCol }
            holding [kv, vv] (dictSet D kv vv))
        again (.compLoop (.DictComp kx vx [⟨t0, i0, ifs0, 0⟩, ⟨t1, i1, ifs1, 0⟩] scope pos) 1 it (.ref D) env)) := by rfl
section
variable {prog : Program} {w : World} {A : Around} {R : Result → Shared → Prop} {s : Shared} {kx vx t0 i0 t1 i1 : Expr} {ifs0 ifs1 : List Expr} {scope : Scope} {pos : Pos} {it acc : Value} {D : Addr} {env : Env}
theorem dLoopOut (hs : ∀ x, foldedSetIterable i1 env x = pure x) (I : Nat → Shared → Prop)
    (turn : ∀ n s, I n s → wpAny (model prog w) A (pyNext it) (fun r sa => match r with
      | none => R (.ok .next) sa
      | some v => wpAny (model prog w) A (letOwnedTupleGo t0 it v) (fun _ sb => wpAny (model prog w) A (assign t0 env v) (fun _ sc =>
          wpAny (model prog w) A (forIn ifs0 true fun c r => if r = true then do let ok ← isTrue c env (eval c env); pure (ForInStep.yield ok) else pure (ForInStep.yield r)) (fun ok sd =>
            if ok = true then wpAny (model prog w) A (eval i1 env) (fun x se => wpAny (model prog w) A (pyIter x) (fun it1 sf =>
              codeAny (model prog w) A (.compStart (.DictComp kx vx [⟨t0, i0, ifs0, 0⟩, ⟨t1, i1, ifs1, 0⟩] scope pos) 1 it1 acc env) (fun r s' => match r with
                | .ok _ => ∃ m, m < n ∧ I m s'
                | .error _ => False) sf) (notedBy (model prog w) A env fun e s' => R (.error e) s') se) (notedBy (model prog w) A env fun e s' => R (.error e) s') sd
            else ∃ m, m < n ∧ I m sd) (notedBy (model prog w) A env fun e s' => R (.error e) s') sc) (notedBy (model prog w) A env fun e s' => R (.error e) s') sb) (notedBy (model prog w) A env fun e s' => R (.error e) s') sa) (notedBy (model prog w) A env fun e s' => R (.error e) s') s)
    (n : Nat) (h : I n s) : codeAny (model prog w) A (.compLoop (.DictComp kx vx [⟨t0, i0, ifs0, 0⟩, ⟨t1, i1, ifs1, 0⟩] scope pos) 0 it acc env) R s := by
  refine codeAny_loop rfl I (fun n s hI => ?_) n h
  show wpAny _ A ((compTurn (.DictComp kx vx [⟨t0, i0, ifs0, 0⟩, ⟨t1, i1, ifs1, 0⟩] scope pos) 0 it acc env).onRaise (fun x => do noteFrame x env; theTreesLotGoes x)) _ _ s
  refine wpAny_noted ?_
  rw [dTurnOut]
  refine wpAny_bind (wpAny_standAt (wpAny_bind (wpAny_mono (turn n s hI) (fun r sa ha => ?_) fun _ _ h' => h')))
  cases r with
  | none => exact wpAny_pure ha
  | some v =>
    refine wpAny_bind (wpAny_mono ha (fun _ sb hb => ?_) fun _ _ h' => h')
    refine wpAny_bind (wpAny_mono hb (fun _ sc hc => wpAny_bind (wpAny_mono hc (fun ok sd hd => ?_) fun _ _ h' => h')) fun _ _ h' => h')
    cases ok with
    | false => exact wpAny_pure ⟨rfl, hd⟩
    | true =>
      refine wpAny_bind (wpAny_mono hd (fun x se he => ?_) fun _ _ h' => h')
      refine wpAny_bind (wpAny_standAt (wpAny_bind (wpAny_of_eq (hs x) (wpAny_bind (wpAny_holding (wpAny_mono he (fun it1 sf hf => ?_) fun _ _ h' => h'))))))
      refine wpAny_bind (wpAny_runOwn ?_)
      rw [Around.mark_none]
      refine codeAny_mono hf fun r s' hr => ?_
      cases r with
      | ok f =>
        first
          | exact wpAny_pure ⟨rfl, hr⟩
          | exact wpAny_bind (wpAny_pure (wpAny_pure ⟨rfl, hr⟩))
      | error e => exact hr.elim
theorem dLoopIn (I : Nat → Shared → Prop)
    (turn : ∀ n s, I n s → wpAny (model prog w) A (pyNext it) (fun r sa => match r with
      | none => R (.ok .next) sa
      | some v => wpAny (model prog w) A (letOwnedTupleGo t1 it v) (fun _ sb => wpAny (model prog w) A (assign t1 env v) (fun _ sc =>
          wpAny (model prog w) A (forIn ifs1 true fun c r => if r = true then do let ok ← isTrue c env (eval c env); pure (ForInStep.yield ok) else pure (ForInStep.yield r)) (fun ok sd =>
            if ok = true then wpAny (model prog w) A (eval kx env) (fun kv se => wpAny (model prog w) A (eval vx env) (fun vv sf =>
              wpAny (model prog w) A (dictSet D kv vv) (fun _ sg => ∃ m, m < n ∧ I m sg) (notedBy (model prog w) A env fun e s' => R (.error e) s') sf) (notedBy (model prog w) A env fun e s' => R (.error e) s') se) (notedBy (model prog w) A env fun e s' => R (.error e) s') sd
            else ∃ m, m < n ∧ I m sd) (notedBy (model prog w) A env fun e s' => R (.error e) s') sc) (notedBy (model prog w) A env fun e s' => R (.error e) s') sb) (notedBy (model prog w) A env fun e s' => R (.error e) s') sa) (notedBy (model prog w) A env fun e s' => R (.error e) s') s)
    (n : Nat) (h : I n s) : codeAny (model prog w) A (.compLoop (.DictComp kx vx [⟨t0, i0, ifs0, 0⟩, ⟨t1, i1, ifs1, 0⟩] scope pos) 1 it (.ref D) env) R s := by
  refine codeAny_loop rfl I (fun n s hI => ?_) n h
  show wpAny _ A ((compTurn (.DictComp kx vx [⟨t0, i0, ifs0, 0⟩, ⟨t1, i1, ifs1, 0⟩] scope pos) 1 it (.ref D) env).onRaise (fun x => do noteFrame x env; theTreesLotGoes x)) _ _ s
  refine wpAny_noted ?_
  rw [dTurnIn]
  refine wpAny_bind (wpAny_standAt (wpAny_bind (wpAny_mono (turn n s hI) (fun r sa ha => ?_) fun _ _ h' => h')))
  cases r with
  | none => exact wpAny_pure ha
  | some v =>
    refine wpAny_bind (wpAny_mono ha (fun _ sb hb => ?_) fun _ _ h' => h')
    refine wpAny_bind (wpAny_mono hb (fun _ sc hc => wpAny_bind (wpAny_mono hc (fun ok sd hd => ?_) fun _ _ h' => h')) fun _ _ h' => h')
    cases ok with
    | false => exact wpAny_pure ⟨rfl, hd⟩
    | true =>
      exact wpAny_bind (wpAny_bind (wpAny_mono hd (fun kv se he => wpAny_bind (wpAny_holding (wpAny_mono he (fun vv sf hf => wpAny_bind (wpAny_standAt (wpAny_holding (wpAny_mono hf (fun _ sg hg => wpAny_pure ⟨rfl, hg⟩) fun _ _ h' => h')))) fun _ _ h' => h'))) fun _ _ h' => h'))
theorem dStart1 (h0 : codeAny (model prog w) A (.compLoop (.DictComp kx vx [⟨t0, i0, ifs0, 0⟩, ⟨t1, i1, ifs1, 0⟩] scope pos) 1 it acc env) R s)
    (h : wpAny (model prog w) A (pyIter it) (fun it' s' => codeAny (model prog w) A (.compLoop (.DictComp kx vx [⟨t0, i0, ifs0, 0⟩, ⟨t1, i1, ifs1, 0⟩] scope pos) 1 it' acc env) R s')
      (notedBy (model prog w) A env fun x s' => R (.error x) s') s) :
    codeAny (model prog w) A (.compStart (.DictComp kx vx [⟨t0, i0, ifs0, 0⟩, ⟨t1, i1, ifs1, 0⟩] scope pos) 1 it acc env) R s := by
  refine codeAny_of_tree ?_
  show wpAny _ _ ((compStart (.DictComp kx vx [⟨t0, i0, ifs0, 0⟩, ⟨t1, i1, ifs1, 0⟩] scope pos) 1 it acc env).onRaise (fun x => do noteFrame x env; standAt theWindowsPlace)) _ _ s
  refine wpAny_notedAt ?_
  unfold compStart
  show wpAny _ _ (ask >>= _) _ _ s
  refine wpAny_bind (wpAny_askSetting (wpAny_ite ?_))
  split
  · first
      | exact wpAny_bind (wpAny_pure (wpAny_pure (And.intro rfl h0)))
      | exact wpAny_pure (And.intro rfl h0)
  · first
      | exact wpAny_bind (wpAny_rule (wpAny_bind (wpAny_standAt (wpAny_bind (wpAny_mono h (fun it' s' h' => wpAny_pure (And.intro rfl h')) fun _ _ x => x)))))
      | (refine wpAny_bind (wpAny_rule ?_); show wpAny _ _ (standAt i1.pos >>= _) _ _ s; exact wpAny_bind (wpAny_standAt (wpAny_bind (wpAny_mono h (fun it' s' h' => wpAny_pure (And.intro rfl h')) fun _ _ x => x))))
end
section
variable {X : Cx}
/-- two clauses: the first one's J, then in each turn the second's -/
def tDc2G (t : Bool) (wi : TI) (g : TG) (tt : TT) (wi1 : TI) (g1 : TG) (tt1 : TT) (tk tv : TE) (vs vs1 : List Nat) : TE := fun σ H Q => wi σ H fun J H1 => ∀ D, H1 D = none → ∃ W : Nat → Nat → Hp → Prop, (∃ m, W 0 m (upd H1 D (dE t))) ∧ ∀ i m H, W i m H →
  (J.stop i H ∧ Q (.ref D) H) ∨ (J.go i H ∧ ∃ Nx : Hp → Prop, (∀ H', Nx H' → ∃ m', m' < m ∧ W (i + 1) m' H') ∧ ∀ x H', J.yld i H x H' → g x (L2.wipe σ vs) H' fun σ2 H2 => L2.wipe σ2 vs = L2.wipe σ vs ∧ tt σ2 H2 fun b H3 =>
    if b = true then wi1 σ2 H3 fun J1 H4 => ∃ W1 : Nat → Nat → Hp → Prop, (∃ m, W1 0 m H4) ∧ ∀ j k H, W1 j k H →
      (J1.stop j H ∧ Nx H) ∨ (J1.go j H ∧ ∃ Nx1 : Hp → Prop, (∀ H', Nx1 H' → ∃ k', k' < k ∧ W1 (j + 1) k' H') ∧ ∀ x H', J1.yld j H x H' → g1 x (L2.wipe σ2 vs1) H' fun σ3 H5 => L2.wipe σ3 vs1 = L2.wipe σ2 vs1 ∧ tt1 σ3 H5 fun b H6 =>
        if b = true then tk σ3 H6 fun y H7 => tv σ3 H7 fun z H8 => ∃ H9, DPut H8 D y z H9 ∧ Nx1 H9 else Nx1 H6)
    else Nx H3)
theorem dcg2_core (t : Bool) (hu : X.A.units + 1 < cLine) {pn0 : List (Addr × Obj)} {s : Shared} {σ : L2.St} {H : Hp} {Q : VK} {kx vx tg iter tg1 iter1 : Expr} {ifs ifs1 : List Expr} {scope : Scope} {own : List (Str × Nat)} {pos pos' : Pos} {vs1 : List Nat} {wi wi1 : TI} {g g1 : TG} {tt tt1 : TT} {tk tv : TE} {use : Option (Value → Sem Unit)} {Qf : Value → Shared → Prop}
    (hc : X.calm = true) (hN : X.N.Nodup) (I : Inv X pn0 σ H s) (hi : PI X tg iter wi) (ok : BlkOk X.N X.env.scope scope own) (hv : ∀ i ∈ vs1, i ∈ own.map (·.2))
    (hg : ∀ (s : Shared) (H : Hp) (C : Addr) (cl : List (Str × Addr)) (cells : List Addr), PG (X.blk s H scope (compEnvC scope cl C X.env) cells) tg g) (ht : ∀ (s : Shared) (H : Hp) (C : Addr) (cl : List (Str × Addr)) (cells : List Addr), PTs (X.blk s H scope (compEnvC scope cl C X.env) cells) ifs tt)
    (hk : ∀ (s : Shared) (H : Hp) (C : Addr) (cl : List (Str × Addr)) (cells : List Addr), PE (X.blk s H scope (compEnvC scope cl C X.env) cells) kx tk)
    (he : ∀ (s : Shared) (H : Hp) (C : Addr) (cl : List (Str × Addr)) (cells : List Addr), PE (X.blk s H scope (compEnvC scope cl C X.env) cells) vx tv) (hs : ∀ x, foldedSetIterable iter X.env x = pure x)
    (hi1 : ∀ (s : Shared) (H : Hp) (C : Addr) (cl : List (Str × Addr)) (cells : List Addr), PI (X.blk s H scope (compEnvC scope cl C X.env) cells) tg1 iter1 wi1) (hg1 : ∀ (s : Shared) (H : Hp) (C : Addr) (cl : List (Str × Addr)) (cells : List Addr), PG (X.blk s H scope (compEnvC scope cl C X.env) cells) tg1 g1) (ht1 : ∀ (s : Shared) (H : Hp) (C : Addr) (cl : List (Str × Addr)) (cells : List Addr), PTs (X.blk s H scope (compEnvC scope cl C X.env) cells) ifs1 tt1) (hs1 : ∀ env x, foldedSetIterable iter1 env x = pure x)
    (h : tDc2G t wi g tt wi1 g1 tt1 tk tv (own.map (·.2)) vs1 σ H Q)
    (hRR : ∀ D C s' m H', Inv X pn0 σ H' s' → Q (.ref D) H' → s'.heap.Ns C m → FpOk X pn0 H' C → compPost (model X.prog X.w) X.A X.xe use Qf (.ref D) C (.ok .next) s') :
    wpAny (model X.prog X.w) X.A (comprehension (.DictComp kx vx [⟨tg, iter, ifs, 0⟩, ⟨tg1, iter1, ifs1, 0⟩] scope pos) scope X.env pos' newDict false (eval iter X.env) use) Qf X.xe s := by
  have hfr : ∀ y ∈ scope.names, y.2 = .free → ∃ c, X.env.cells.lookup y.1 = some c := fun y hy e => by
    rcases ok.free y hy e with k | k
    · exact I.ok.has _ (.inl k)
    · exact I.ok.has _ (.inr k)
  refine wpAny_comprehension_free (use := use) rfl hs (closure_ok hfr) ok.kind (fun y hy e => by rw [ok.uniq y hy, e])
    (thn (hi.run pn0 s σ H _ I h) fun qv0 ta qh0 => thn qh0 fun qi0 tb h2 => ?_)
  obtain ⟨it, cells, tn, J, Hb, e, Ib, T, tn2, fp2, q⟩ := h2
  subst e
  refine wpAny_newObj_type (newEnv_comp ?_)
  generalize eD : tb.heap.objs.size = D
  have nD : Hb D = none := Ib.hok.fresh (Nat.le_of_eq eD)
  obtain ⟨W, ⟨mz, wz⟩, trn⟩ := q D nD
  -- the new list
  generalize esc : ({ tb with heap := tb.heap.push { cls := .type "dict", data := .dict #[] } } : Shared) = tc
  have Ic : Inv X pn0 σ (upd Hb D (dE t)) tc := by
    rw [← esc]
    refine Ib.laid (t' := tb.toks) (fun b o e => Heap.get?_push_of_some _ e) (Nat.le_of_eq eD) ?_
    rw [← eD]
    exact dE_empty t Ib.big
  have h3 : tc.heap = tb.heap.push { cls := .type "dict", data := .dict #[] } := by rw [← esc]
  have szc : ∀ b ∈ cells, b < tb.heap.objs.size := fun b hb => by
    obtain ⟨o, e, _⟩ := T.obj _ _ tn2 b hb
    exact Heap.lt_size e
  have fpc : ∀ b ∈ cells, FpOk X pn0 (upd Hb D (dE t)) b ∧ b < tc.heap.objs.size := fun b hb => by
    have hlt := szc b hb
    refine ⟨⟨?_, (fp2 b hb).2⟩, by rw [h3, Heap.size_push]; exact Nat.lt_succ_of_lt hlt⟩
    rw [upd_ne (by rw [← eD]; exact Nat.ne_of_lt hlt)]
    exact (fp2 b hb).1
  have tn3 : tn 0 tc.heap := T.keep _ _ _ tn2 fun b _ o e => by rw [h3]; exact Heap.get?_push_of_some _ e
  have Id := block_start Ic ok hN fpc
  have gP := hg tc (upd Hb D (dE t)) tc.heap.objs.size (cellsFrom (tc.heap.objs.size + 1) scope.names (cloFrom X.env.cells scope.names [])) cells
  have tP := ht tc (upd Hb D (dE t)) tc.heap.objs.size (cellsFrom (tc.heap.objs.size + 1) scope.names (cloFrom X.env.cells scope.names [])) cells
  have kP := hk tc (upd Hb D (dE t)) tc.heap.objs.size (cellsFrom (tc.heap.objs.size + 1) scope.names (cloFrom X.env.cells scope.names [])) cells
  have eP := he tc (upd Hb D (dE t)) tc.heap.objs.size (cellsFrom (tc.heap.objs.size + 1) scope.names (cloFrom X.env.cells scope.names [])) cells
  have iP := hi1 tc (upd Hb D (dE t)) tc.heap.objs.size (cellsFrom (tc.heap.objs.size + 1) scope.names (cloFrom X.env.cells scope.names [])) cells
  have gP1 := hg1 tc (upd Hb D (dE t)) tc.heap.objs.size (cellsFrom (tc.heap.objs.size + 1) scope.names (cloFrom X.env.cells scope.names [])) cells
  have tP1 := ht1 tc (upd Hb D (dE t)) tc.heap.objs.size (cellsFrom (tc.heap.objs.size + 1) scope.names (cloFrom X.env.cells scope.names [])) cells
  show codeAny _ _ (.compStart (.DictComp kx vx [⟨tg, iter, ifs, 0⟩, ⟨tg1, iter1, ifs1, 0⟩] scope pos) 0 (.ref it) (.ref D) (compEnvC scope (cellsFrom (tc.heap.objs.size + 1) scope.names (cloFrom X.env.cells scope.names [])) tc.heap.objs.size X.env)) (compPost (model X.prog X.w) X.A X.xe use Qf (.ref D) tc.heap.objs.size) { tc with heap := pushCells (tc.heap.push { cls := .type "dict", data := .dict #[] }) scope.names }
  have ncl : ∀ b ∈ cells, (upd Hb D (dE t)) b = none := fun b hb => (fpc b hb).1.1
  generalize ecn : compEnvC scope (cellsFrom (tc.heap.objs.size + 1) scope.names (cloFrom X.env.cells scope.names [])) tc.heap.objs.size X.env = cenv at Id gP tP kP eP iP gP1 tP1 ⊢
  have ecl : cenv.locals = tc.heap.objs.size := by subst ecn; rfl
  generalize eHc : upd Hb D (dE t) = Hc at Ic Id gP tP kP eP iP gP1 tP1 wz ncl fpc
  generalize esd : ({ tc with heap := pushCells (tc.heap.push { cls := .type "dict", data := .dict #[] }) scope.names } : Shared) = td0 at Id ⊢
  have tn4 : tn 0 td0.heap := T.keep _ _ _ tn3 fun b _ o e => by rw [← esd]; exact pushCells_keeps _ _ _ _ (Heap.get?_push_of_some _ e)
  have sta : ∀ {σ' : L2.St} {H' : Hp} {s' : Shared}, Inv (X.blk tc Hc scope cenv cells) [] σ' H' s' → (∀ b ∈ cells, H' b = none) → ∀ b ∈ cells, FpOk (X.blk tc Hc scope cenv cells) [] H' b := fun {σ' H' s'} I' hn b hb =>
    ⟨hn b hb, (I'.ok.exf b hb).1, I'.ok.exfs b hb, .inl hb, fun x c e => (I'.ok.exf b hb).2 x c e, fun p hp => absurd (show p ∈ ([] : List (Addr × Obj)) ++ [] from hp) (by simp)⟩
  have whole : codeAny (model X.prog X.w) X.A (.compLoop (.DictComp kx vx [⟨tg, iter, ifs, 0⟩, ⟨tg1, iter1, ifs1, 0⟩] scope pos) 0 (.ref it) (.ref D) cenv) (compPost (model X.prog X.w) X.A X.xe use Qf (.ref D) tc.heap.objs.size) td0 := by
    refine dLoopOut (hs1 cenv) (fun n s' => ∃ i H', Inv (X.blk tc Hc scope cenv cells) [] (L2.wipe σ (own.map (·.2))) H' s' ∧ tn i s'.heap ∧ (∀ b ∈ cells, H' b = none) ∧ W i n H') ?_ mz ⟨0, Hc, Id, tn4, ncl, wz⟩
    rintro n te0 ⟨i, He, Ie, tn5, ne5, we5⟩
    rcases trn i n He we5 with ⟨stops, qend⟩ | ⟨goes, Nx, hNx, stp⟩
    · have fin0 := T.done (X.blk tc Hc scope cenv cells) rfl rfl rfl hc i [] te0 _ He (fun _ _ => False) Ie (sta Ie ne5) tn5 stops
      refine thnF fin0 fun r tf0 ⟨hr, If⟩ => ?_
      subst hr
      -- back in the def's context
      have Ig : Inv X pn0 σ He tf0 := Ic.call' (ch := cells) If.os If.base If.hok If.bare fun b hb => ⟨(fpc b hb).1.2.2.2.1, (fpc b hb).1.2.1, (fpc b hb).1.2.2.2.2.1, (fpc b hb).1.2.2.2.2.2⟩
      have noC : He tc.heap.objs.size = none := by
        have z : He cenv.locals = none := If.free
        rw [ecl] at z
        exact z
      obtain ⟨m, hn, _⟩ := If.loc
      have hn : tf0.heap.Ns cenv.locals m := hn
      rw [ecl] at hn
      exact hRR D tc.heap.objs.size tf0 m He Ig qend hn (Ic.fpOk (Nat.le_refl _) noC)
    · have itm := T.item (X.blk tc Hc scope cenv cells) rfl rfl rfl hc i [] te0 _ He (fun _ _ => False) Ie (sta Ie ne5) tn5 goes
      refine thnF itm fun r tf0 ⟨u, hr, h6⟩ => ?_
      subst hr
      refine thnF h6 fun _ tg0 ⟨x, Hg, Ig, rg, yg, tn7, ng⟩ => ?_
      have I7' := Ig.pinned (sta Ig ng) (T.obj _ _ tn7)
      refine thnF (gP.run _ tg0 _ Hg x u _ I7' rg (stp x Hg yg)) fun _ th0 ⟨σ8, Hh, Ih, hw8, qh8⟩ => ?_
      refine thnF (tP.run _ th0 σ8 Hh _ Ih qh8) fun b tj ⟨Hj, Ij, qh9⟩ => ?_
      -- the turn's end, from any slots that know what the block knew at its start
      have close : ∀ {σ9 : L2.St} {s' : Shared} {H' : Hp}, Inv (X.blk tc Hc scope cenv cells) ([] ++ pinsAt cells tg0.heap) σ9 H' s' → (L2.wipe σ (own.map (·.2))).length = σ9.length → (∀ (j : Nat) v, (L2.wipe σ (own.map (·.2)))[j]? = some (some v) → σ9[j]? = some (some v)) → Nx H' →
          ∃ m, m < n ∧ ∃ i H', Inv (X.blk tc Hc scope cenv cells) [] (L2.wipe σ (own.map (·.2))) H' s' ∧ tn i s'.heap ∧ (∀ b ∈ cells, H' b = none) ∧ W i m H' := fun {σ9 s' H'} I' hl hk nx => by
        obtain ⟨m', hm, w'⟩ := hNx H' nx
        have pin' : ∀ b ∈ cells, ∀ o, tg0.heap.get? b = some o → s'.heap.get? b = some o ∧ H' b = none := fun b hb o e =>
          let z := I'.pin (b, o) (List.mem_append_right _ (List.mem_append_right _ (mem_pinsAt hb e)))
          ⟨z.1, z.2.1⟩
        refine ⟨m', hm, i + 1, H', (I'.unpinned (pins := [])).weak hl hk, T.keep _ _ _ tn7 fun b hb o e => (pin' b hb o e).1, fun b hb => ?_, w'⟩
        obtain ⟨o, e, _⟩ := T.obj _ _ tn7 b hb
        exact (pin' b hb o e).2
      have len8 : (L2.wipe σ (own.map (·.2))).length = σ8.length := by rw [← hw8, wipe_length]
      have knw8 : ∀ (j : Nat) v, (L2.wipe σ (own.map (·.2)))[j]? = some (some v) → σ8[j]? = some (some v) := fun j v e => by
        rw [← hw8] at e
        exact (wipe_some e).1
      have knw9 : ∀ (j : Nat) v, (L2.wipe σ (own.map (·.2)))[j]? = some (some v) → (L2.wipe σ8 vs1)[j]? = some (some v) := fun j v e => by
        rw [← hw8] at e
        obtain ⟨e1, e2⟩ := wipe_some e
        rw [wipe_out fun z => e2 (hv j z)]
        exact e1
      cases b with
      | false =>
        simp only [Bool.false_eq_true, if_false] at qh9 ⊢
        exact close Ij len8 knw8 qh9
      | true =>
        simp only [if_true] at qh9 ⊢
        refine thnF (iP.run _ tj σ8 Hj _ Ij qh9) fun xv tk0 hx => thnF hx fun itv tk1 q11 => ?_
        obtain ⟨it1, cells1, tn1, J1, Hk, e1, Ik, T1, tnk, fpk, W1, ⟨m1, w1⟩, trn1⟩ := q11
        subst e1
        have sta1 : ∀ {H' : Hp}, (∀ b ∈ cells1, H' b = none) → ∀ b ∈ cells1, FpOk (X.blk tc Hc scope cenv cells) ([] ++ pinsAt cells tg0.heap) H' b := fun hn b hb => ⟨hn b hb, (fpk b hb).2⟩
        have inner : codeAny (model X.prog X.w) X.A (.compLoop (.DictComp kx vx [⟨tg, iter, ifs, 0⟩, ⟨tg1, iter1, ifs1, 0⟩] scope pos) 1 (.ref it1) (.ref D) cenv)
            (fun r s' => match r with
              | .ok _ => ∃ m, m < n ∧ ∃ i H', Inv (X.blk tc Hc scope cenv cells) [] (L2.wipe σ (own.map (·.2))) H' s' ∧ tn i s'.heap ∧ (∀ b ∈ cells, H' b = none) ∧ W i m H'
              | .error _ => False) tk1 := by
          refine dLoopIn (fun k s' => ∃ j H', Inv (X.blk tc Hc scope cenv cells) ([] ++ pinsAt cells tg0.heap) (L2.wipe σ8 vs1) H' s' ∧ tn1 j s'.heap ∧ (∀ b ∈ cells1, H' b = none) ∧ W1 j k H') ?_ m1 ⟨0, Hk, Ik.weak (wipe_length _ _) (fun j v e => (wipe_some e).1), tnk, fun b hb => (fpk b hb).1, w1⟩
          rintro k tm ⟨j, Hm, Im, tnm, nem, wm⟩
          rcases trn1 j k Hm wm with ⟨stop1, nx1⟩ | ⟨go1, Nx1, hNx1, stp1⟩
          · refine thnF (T1.done (X.blk tc Hc scope cenv cells) rfl rfl rfl hc j _ tm (L2.wipe σ8 vs1) Hm (fun _ _ => False) Im (sta1 nem) tnm stop1) fun r to0 ⟨hr, Io⟩ => ?_
            subst hr
            exact close Io (len8.trans (wipe_length σ8 vs1).symm) knw9 nx1
          · refine thnF (T1.item (X.blk tc Hc scope cenv cells) rfl rfl rfl hc j _ tm (L2.wipe σ8 vs1) Hm (fun _ _ => False) Im (sta1 nem) tnm go1) fun r to0 ⟨u1, hr, ho⟩ => ?_
            subst hr
            refine thnF ho fun _ tp ⟨x1, Hp1, Ip, rp, yp, tnp, np⟩ => ?_
            have Ip' := Ip.pinned (sta1 np) (T1.obj _ _ tnp)
            refine thnF (gP1.run _ tp (L2.wipe σ8 vs1) Hp1 x1 u1 _ Ip' rp (stp1 x1 Hp1 yp)) fun _ tq ⟨σq, Hq, Iq, hwq, qq⟩ => ?_
            refine thnF (tP1.run _ tq σq Hq _ Iq qq) fun b1 tr ⟨Hr, Ir, qr⟩ => ?_
            have close1 : ∀ {s' : Shared} {H' : Hp}, Inv (X.blk tc Hc scope cenv cells) (([] ++ pinsAt cells tg0.heap) ++ pinsAt cells1 tp.heap) σq H' s' → Nx1 H' → ∃ m, m < k ∧ ∃ j H', Inv (X.blk tc Hc scope cenv cells) ([] ++ pinsAt cells tg0.heap) (L2.wipe σ8 vs1) H' s' ∧ tn1 j s'.heap ∧ (∀ b ∈ cells1, H' b = none) ∧ W1 j m H' := fun {s' H'} I' nx => by
              obtain ⟨m', hm, w'⟩ := hNx1 H' nx
              have pin' : ∀ b ∈ cells1, ∀ o, tp.heap.get? b = some o → s'.heap.get? b = some o ∧ H' b = none := fun b hb o e =>
                let z := I'.pin (b, o) (List.mem_append_right _ (List.mem_append_right _ (mem_pinsAt hb e)))
                ⟨z.1, z.2.1⟩
              refine ⟨m', hm, j + 1, H', I'.unpinned.weak (by rw [← hwq, wipe_length]) (fun j v e => by rw [← hwq] at e; exact (wipe_some e).1), T1.keep _ _ _ tnp fun b hb o e => (pin' b hb o e).1, fun b hb => ?_, w'⟩
              obtain ⟨o, e, _⟩ := T1.obj _ _ tnp b hb
              exact (pin' b hb o e).2
            cases b1 with
            | false =>
              simp only [Bool.false_eq_true, if_false] at qr ⊢
              exact close1 Ir qr
            | true =>
              simp only [if_true] at qr ⊢
              refine thnF (kP.run _ tr σq Hr _ Ir qr) fun z ts ⟨yk, Hs, Is, rk, qs⟩ => ?_
              refine thnF (eP.run _ ts σq Hs _ Is qs) fun z2 tu ⟨yv, Hu, Iu, rl, Hv, put, nx⟩ => ?_
              exact d_dictSetG (X := X.blk tc Hc scope cenv cells) hu Iu put rk rl fun tv0 Iv => close1 Iv nx
        exact dStart1 inner (T1.self X.A 0 _ _ _ tnk inner)
  exact codeAny_compStart_dict whole (T.self X.A 0 _ _ _ tn4 whole)
theorem pe_dc2G {kx vx tg iter tg1 iter1 : Expr} {ifs ifs1 : List Expr} {scope : Scope} {own : List (Str × Nat)} {pos : Pos} {vs1 : List Nat} {wi wi1 : TI} {g g1 : TG} {tt tt1 : TT} {tk tv : TE} (t : Bool) (hu : X.A.units + 1 < cLine) (hc : X.calm = true) (hN : X.N.Nodup) (hi : PI X tg iter wi) (ok : BlkOk X.N X.env.scope scope own) (hv : ∀ i ∈ vs1, i ∈ own.map (·.2))
    (hg : ∀ (s : Shared) (H : Hp) (C : Addr) (cl : List (Str × Addr)) (fp : List Addr), PG (X.blk s H scope (compEnvC scope cl C X.env) fp) tg g) (ht : ∀ (s : Shared) (H : Hp) (C : Addr) (cl : List (Str × Addr)) (fp : List Addr), PTs (X.blk s H scope (compEnvC scope cl C X.env) fp) ifs tt)
    (hi1 : ∀ (s : Shared) (H : Hp) (C : Addr) (cl : List (Str × Addr)) (fp : List Addr), PI (X.blk s H scope (compEnvC scope cl C X.env) fp) tg1 iter1 wi1) (hg1 : ∀ (s : Shared) (H : Hp) (C : Addr) (cl : List (Str × Addr)) (fp : List Addr), PG (X.blk s H scope (compEnvC scope cl C X.env) fp) tg1 g1) (ht1 : ∀ (s : Shared) (H : Hp) (C : Addr) (cl : List (Str × Addr)) (fp : List Addr), PTs (X.blk s H scope (compEnvC scope cl C X.env) fp) ifs1 tt1)
    (hk : ∀ (s : Shared) (H : Hp) (C : Addr) (cl : List (Str × Addr)) (fp : List Addr), PE (X.blk s H scope (compEnvC scope cl C X.env) fp) kx tk)
    (he : ∀ (s : Shared) (H : Hp) (C : Addr) (cl : List (Str × Addr)) (fp : List Addr), PE (X.blk s H scope (compEnvC scope cl C X.env) fp) vx tv) (hs : ∀ x, foldedSetIterable iter X.env x = pure x := by intro _; rfl) (hs1 : ∀ env x, foldedSetIterable iter1 env x = pure x := by intro _ _; rfl) :
    PE X (.DictComp kx vx [⟨tg, iter, ifs, 0⟩, ⟨tg1, iter1, ifs1, 0⟩] scope pos) (tDc2G t wi g tt wi1 g1 tt1 tk tv (own.map (·.2)) vs1) := by
  refine ⟨fun pins s σ H Q I h => ?_⟩
  rw [arm_eval_DictComp]
  exact dcg2_core t hu hc hN I hi ok hv hg ht hk he hs hi1 hg1 ht1 hs1 h fun D C s' m H' I' q hn ⟨f0, f1, f2, f3, f4, f5⟩ =>
    ⟨m, hn, fun h'' sb => ⟨.ref D, H', I'.turned (t' := s'.toks) (fun b o hb e => (sb.2 b hb).trans e) f0 f1 f3 f4 f5, rfl, q⟩⟩
end
end L3

/-! L3V: comprehensions of two clauses as functions. -/
namespace L3
open PySem PySem.Spec PyProof.Rows L2
abbrev BM := Rho → GH → Option GH
def twoIn (B : BM) (c : Chk) (tg : Tg) (tt : EM) (ρ : Rho) : List D → GH → Option GH
  | [], g => some g
  | d :: ds, g => match tgM tg d ρ g with
    | none => none
    | some (ρ1, g1) => match tt ρ1 g1 with
      | .ok (.bl true) g2 => match B ρ1 g2 with
        | some g3 => if chkOk c g3 = true then twoIn B c tg tt ρ ds g3 else none
        | none => none
      | .ok (.bl false) g2 => if chkOk c g2 = true then twoIn B c tg tt ρ ds g2 else none
      | _ => none
def twoOut (im1 : IM) (B : BM) (c : Chk) (tg : Tg) (tt : EM) (tg1 : Tg) (tt1 : EM) (own1 : List Nat) (ρ : Rho) : List D → GH → Option GH
  | [], g => some g
  | d :: ds, g => match tgM tg d ρ g with
    | none => none
    | some (ρ1, g1) => match tt ρ1 g1 with
      | .ok (.bl true) g2 => match im1 ρ1 g2 with
        | .ok p g3 => if chkOk p.2 g3 = true then match twoIn B p.2 tg1 tt1 (wipeD ρ1 own1) p.1 g3 with
            | some g4 => if chkOk c g4 = true then twoOut im1 B c tg tt tg1 tt1 own1 ρ ds g4 else none
            | none => none
          else none
        | _ => none
      | .ok (.bl false) g2 => if chkOk c g2 = true then twoOut im1 B c tg tt tg1 tt1 own1 ρ ds g2 else none
      | _ => none
def putB (n : Nat) (ek ev : EM) : BM := fun ρ g => match ek ρ g with
  | .ok k g1 => match ev ρ g1 with
    | .ok v g2 => match g2[n]? with
      | some (.dct t kvs) => if keyOk t k = true ∧ kvs.length < sizeLine then some (g2.set n (.dct t (dPut kvs k v))) else none
      | _ => none
    | _ => none
  | _ => none
def appB (n : Nat) (e : EM) : BM := fun ρ g => match e ρ g with
  | .ok v g1 => match g1[n]? with
    | some (.lst es) => if es.length < sizeLine then some (g1.set n (.lst (es ++ [v]))) else none
    | _ => none
  | _ => none
def mTwo (o : O) (B : Nat → BM) (im : IM) (tg : Tg) (tt : EM) (im1 : IM) (tg1 : Tg) (tt1 : EM) (own own1 : List Nat) : EM := fun ρ g => (im ρ g).bind fun p g1 => if chkOk p.2 (g1 ++ [o]) = true then match twoOut im1 (B g1.length) p.2 tg tt tg1 tt1 own1 (wipeD ρ own) p.1 (g1 ++ [o]) with
  | some g2 => .ok (.obj g1.length) g2
  | none => .bad
  else .bad
def mDc2 (t : Bool) (im : IM) (tg : Tg) (tt : EM) (im1 : IM) (tg1 : Tg) (tt1 : EM) (ek ev : EM) (own own1 : List Nat) : EM := mTwo (.dct t []) (fun n => putB n ek ev) im tg tt im1 tg1 tt1 own own1
def mLc2 (im : IM) (tg : Tg) (tt : EM) (im1 : IM) (tg1 : Tg) (tt1 : EM) (e : EM) (own own1 : List Nat) : EM := mTwo (.lst []) (fun n => appB n e) im tg tt im1 tg1 tt1 own own1
section
variable {mg : Str → Option Value} {K : PySem.W.Frag}
/-- what a turn does, by what is behind it -/
abbrev BT := L2.St → Hp → (Hp → Prop) → Prop
def BOk (mg : Str → Option Value) (K : PySem.W.Frag) (n : Nat) (p : Addr) (B : BM) (te : BT) : Prop := ∀ {ι : List Addr} {g : GH} {ρ : Rho} {σ : L2.St} {H : Hp} {g' : GH} {Nx : Hp → Prop}, Rel mg K ι g H → EnvR K ι H σ ρ → ι[n]? = some p → B ρ g = some g' → (∀ ι' H', Step mg K ι H ι' g' H' → Nx H') → te σ H Nx
theorem two_in {n : Nat} {p : Addr} {B : BM} {te : BT} (hb : BOk mg K n p B te) {ι0 : List Addr} {H0 : Hp} {σ : L2.St} {vs : List Nat} {c : Chk} {ds : List D} {J : It} {ρ : Rho} {g0 gE : GH} {tg : Tg} {mt : EM} {Fin : Hp → Prop}
    (hm : ∀ i ∈ tgS tg, i ∈ vs) (r0 : Rel mg K ι0 g0 H0) (hρ : EnvR K ι0 H0 σ ρ) (hn : ι0[n]? = some p) (jok : JOk mg K J ds c ι0 H0) (hc : chkOk c g0 = true) (el : twoIn B c tg mt (wipeD ρ vs) ds g0 = some gE) (fin : ∀ ι H, Step mg K ι0 H0 ι gE H → Fin H) :
    ∃ W : Nat → Nat → Hp → Prop, (∃ m, W 0 m H0) ∧ ∀ i m H, W i m H → (J.stop i H ∧ Fin H) ∨ (J.go i H ∧ ∃ Nx : Hp → Prop, (∀ H', Nx H' → ∃ m', m' < m ∧ W (i + 1) m' H') ∧
      ∀ x H', J.yld i H x H' → tgH K tg x (L2.wipe σ vs) H' fun σ2 H2 => L2.wipe σ2 vs = L2.wipe σ vs ∧ tFT mg K W0 mt σ2 H2 fun b H3 => if b = true then te σ2 H3 Nx else Nx H3) := by
  refine ⟨fun i n H => n = ds.length - i ∧ i ≤ ds.length ∧ ∃ ι g, Step mg K ι0 H0 ι g H ∧ chkOk c g = true ∧ twoIn B c tg mt (wipeD ρ vs) (ds.drop i) g = some gE, ⟨ds.length, by simp, Nat.zero_le _, ι0, g0, Step.refl r0, hc, by rw [List.drop_zero]; exact el⟩, ?_⟩
  rintro i m H ⟨rfl, hi, ι, g, s, hc2, h2⟩
  obtain ⟨j1, j2⟩ := jok i ι g H s hc2
  by_cases hlt : i < ds.length
  · have hd : ds[i]? = some ds[i] := List.getElem?_eq_getElem hlt
    have hdrop : ds.drop i = ds[i] :: ds.drop (i + 1) := List.drop_eq_getElem_cons hlt
    rw [hdrop] at h2
    obtain ⟨go, yl⟩ := j1 _ hd
    refine .inr ⟨go, fun H' => i + 1 ≤ ds.length ∧ ∃ ι g, Step mg K ι0 H0 ι g H' ∧ chkOk c g = true ∧ twoIn B c tg mt (wipeD ρ vs) (ds.drop (i + 1)) g = some gE,
      fun H' q => ⟨ds.length - (i + 1), by omega, rfl, q.1, q.2⟩, fun x H' y => ?_⟩
    obtain ⟨s1, hx⟩ := yl x H' y
    unfold twoIn at h2
    cases et : tgM tg ds[i] (wipeD ρ vs) g with
    | none => simp only [et] at h2; cases h2
    | some q =>
      obtain ⟨ρ1, g2⟩ := q
      simp only [et] at h2
      have ρw : EnvR K ι H' (L2.wipe σ vs) (wipeD ρ vs) := (hρ.step (s.trans s1)).wipe vs
      refine tg_run s1.rel hm ρw hx et fun eg σ2 e2 hw => ⟨by rw [hw]; exact wipe_none σ vs vs fun _ h => h, ?_⟩
      subst eg
      refine ⟨ι, g2, ρ1, s1.rel, e2, ?_⟩
      unfold asB
      cases em : mt ρ1 g2 with
      | bad => simp only [em] at h2; cases h2
      | ex _ _ _ => simp only [em] at h2; cases h2
      | ok tv g3 =>
        simp only [em] at h2
        cases tv with
        | bl bb =>
          intro ι3 H3 bv s3 hbv
          cases hbv
          cases bb with
          | false =>
            rw [if_neg (by decide)]
            simp only at h2
            by_cases hk : chkOk c g3 = true
            · rw [if_pos hk] at h2
              exact ⟨hlt, ι3, g3, (s.trans s1).trans s3, hk, h2⟩
            · rw [if_neg hk] at h2; cases h2
          | true =>
            rw [if_pos rfl]
            simp only at h2
            cases eb : B ρ1 g3 with
            | none => simp only [eb] at h2; cases h2
            | some g4 =>
              simp only [eb] at h2
              by_cases hk : chkOk c g4 = true
              · rw [if_pos hk] at h2
                have s13 := (s.trans s1).trans s3
                exact hb s3.rel (e2.step s3) (s13.ix _ _ hn) eb fun ι5 H5 s5 => ⟨hlt, ι5, g4, s13.trans s5, hk, h2⟩
              · rw [if_neg hk] at h2; cases h2
        | _ => simp only at h2; cases h2
  · have hi' : i = ds.length := by omega
    subst hi'
    rw [List.drop_length] at h2
    simp only [twoIn, Option.some.injEq] at h2
    subst h2
    exact .inl ⟨j2 rfl, fin _ _ s⟩
theorem two_out {n : Nat} {p : Addr} {B : BM} {te : BT} (hb : BOk mg K n p B te) {ι0 : List Addr} {H0 : Hp} {σ : L2.St} {vs vs1 : List Nat} {c : Chk} {ds : List D} {J : It} {ρ : Rho} {g0 gE : GH} {tg tg1 : Tg} {mt mt1 : EM} {im1 : IM} {Fin : Hp → Prop}
    (hm : ∀ i ∈ tgS tg, i ∈ vs) (hm1 : ∀ i ∈ tgS tg1, i ∈ vs1) (r0 : Rel mg K ι0 g0 H0) (hρ : EnvR K ι0 H0 σ ρ) (hn : ι0[n]? = some p) (jok : JOk mg K J ds c ι0 H0) (hc : chkOk c g0 = true) (el : twoOut im1 B c tg mt tg1 mt1 vs1 (wipeD ρ vs) ds g0 = some gE) (fin : ∀ ι H, Step mg K ι0 H0 ι gE H → Fin H) :
    ∃ W : Nat → Nat → Hp → Prop, (∃ m, W 0 m H0) ∧ ∀ i m H, W i m H → (J.stop i H ∧ Fin H) ∨ (J.go i H ∧ ∃ Nx : Hp → Prop, (∀ H', Nx H' → ∃ m', m' < m ∧ W (i + 1) m' H') ∧
      ∀ x H', J.yld i H x H' → tgH K tg x (L2.wipe σ vs) H' fun σ2 H2 => L2.wipe σ2 vs = L2.wipe σ vs ∧ tFT mg K W0 mt σ2 H2 fun b H3 => if b = true then tFI mg K W0 im1 σ2 H3 fun J1 H4 =>
        ∃ W1 : Nat → Nat → Hp → Prop, (∃ m, W1 0 m H4) ∧ ∀ i m H, W1 i m H → (J1.stop i H ∧ Nx H) ∨ (J1.go i H ∧ ∃ Nx1 : Hp → Prop, (∀ H', Nx1 H' → ∃ m', m' < m ∧ W1 (i + 1) m' H') ∧
          ∀ x H', J1.yld i H x H' → tgH K tg1 x (L2.wipe σ2 vs1) H' fun σ3 H5 => L2.wipe σ3 vs1 = L2.wipe σ2 vs1 ∧ tFT mg K W0 mt1 σ3 H5 fun b H6 => if b = true then te σ3 H6 Nx1 else Nx1 H6) else Nx H3) := by
  refine ⟨fun i n H => n = ds.length - i ∧ i ≤ ds.length ∧ ∃ ι g, Step mg K ι0 H0 ι g H ∧ chkOk c g = true ∧ twoOut im1 B c tg mt tg1 mt1 vs1 (wipeD ρ vs) (ds.drop i) g = some gE, ⟨ds.length, by simp, Nat.zero_le _, ι0, g0, Step.refl r0, hc, by rw [List.drop_zero]; exact el⟩, ?_⟩
  rintro i m H ⟨rfl, hi, ι, g, s, hc2, h2⟩
  obtain ⟨j1, j2⟩ := jok i ι g H s hc2
  by_cases hlt : i < ds.length
  · have hd : ds[i]? = some ds[i] := List.getElem?_eq_getElem hlt
    have hdrop : ds.drop i = ds[i] :: ds.drop (i + 1) := List.drop_eq_getElem_cons hlt
    rw [hdrop] at h2
    obtain ⟨go, yl⟩ := j1 _ hd
    refine .inr ⟨go, fun H' => i + 1 ≤ ds.length ∧ ∃ ι g, Step mg K ι0 H0 ι g H' ∧ chkOk c g = true ∧ twoOut im1 B c tg mt tg1 mt1 vs1 (wipeD ρ vs) (ds.drop (i + 1)) g = some gE,
      fun H' q => ⟨ds.length - (i + 1), by omega, rfl, q.1, q.2⟩, fun x H' y => ?_⟩
    obtain ⟨s1, hx⟩ := yl x H' y
    unfold twoOut at h2
    cases et : tgM tg ds[i] (wipeD ρ vs) g with
    | none => simp only [et] at h2; cases h2
    | some q =>
      obtain ⟨ρ1, g2⟩ := q
      simp only [et] at h2
      have ρw : EnvR K ι H' (L2.wipe σ vs) (wipeD ρ vs) := (hρ.step (s.trans s1)).wipe vs
      refine tg_run s1.rel hm ρw hx et fun eg σ2 e2 hw => ⟨by rw [hw]; exact wipe_none σ vs vs fun _ h => h, ?_⟩
      subst eg
      refine ⟨ι, g2, ρ1, s1.rel, e2, ?_⟩
      unfold asB
      cases em : mt ρ1 g2 with
      | bad => simp only [em] at h2; cases h2
      | ex _ _ _ => simp only [em] at h2; cases h2
      | ok tv g3 =>
        simp only [em] at h2
        cases tv with
        | bl bb =>
          intro ι3 H3 bv s3 hbv
          cases hbv
          have s13 := (s.trans s1).trans s3
          cases bb with
          | false =>
            rw [if_neg (by decide)]
            simp only at h2
            by_cases hk : chkOk c g3 = true
            · rw [if_pos hk] at h2
              exact ⟨hlt, ι3, g3, s13, hk, h2⟩
            · rw [if_neg hk] at h2; cases h2
          | true =>
            rw [if_pos rfl]
            simp only at h2
            refine ⟨ι3, g3, ρ1, s3.rel, e2.step s3, ?_⟩
            cases ei : im1 ρ1 g3 with
            | bad => simp only [ei] at h2; cases h2
            | ex _ _ _ => simp only [ei] at h2; cases h2
            | ok pr g4 =>
              simp only [ei] at h2
              obtain ⟨ds1, c1⟩ := pr
              intro ι4 H4 J1 s4 jok1
              by_cases hk1 : chkOk c1 g4 = true
              · rw [if_pos hk1] at h2
                cases ew : twoIn B c1 tg1 mt1 (wipeD ρ1 vs1) ds1 g4 with
                | none => simp only [ew] at h2; cases h2
                | some g5 =>
                  simp only [ew] at h2
                  by_cases hk : chkOk c g5 = true
                  · rw [if_pos hk] at h2
                    have s14 := s13.trans s4
                    exact two_in hb hm1 s4.rel ((e2.step s3).step s4) (s14.ix _ _ hn) jok1 hk1 ew fun ι6 H6 s6 => ⟨hlt, ι6, g5, s14.trans s6, hk, h2⟩
                  · rw [if_neg hk] at h2; cases h2
              · rw [if_neg hk1] at h2; cases h2
        | _ => simp only at h2; cases h2
  · have hi' : i = ds.length := by omega
    subst hi'
    rw [List.drop_length] at h2
    simp only [twoOut, Option.some.injEq] at h2
    subst h2
    exact .inl ⟨j2 rfl, fin _ _ s⟩
theorem putB_ok {n : Nat} {p : Addr} {ek ev : EM} : BOk mg K n p (putB n ek ev) (fun σ H Nx => tF mg K W0 ek σ H fun y H1 => tF mg K W0 ev σ H1 fun z H2 => ∃ H3, DPut H2 p y z H3 ∧ Nx H3) := fun {ι g ρ σ H g' Nx} r hρ hn e k => by
  refine ⟨ι, g, ρ, r, hρ, ?_⟩
  unfold putB at e
  cases e1 : ek ρ g with
  | bad => simp only [e1] at e; cases e
  | ex _ _ _ => simp only [e1] at e; cases e
  | ok kd g1 =>
    simp only [e1] at e
    intro ι1 H1 y s1 hy
    refine ⟨ι1, g1, ρ, s1.rel, hρ.step s1, ?_⟩
    cases e2 : ev ρ g1 with
    | bad => simp only [e2] at e; cases e
    | ex _ _ _ => simp only [e2] at e; cases e
    | ok vd g2 =>
      simp only [e2] at e
      intro ι2 H2 z s2 hz
      cases e3 : g2[n]? with
      | none => simp only [e3] at e; cases e
      | some o =>
        cases o with
        | dct t kvs =>
          simp only [e3] at e
          by_cases hk : keyOk t kd = true ∧ kvs.length < sizeLine
          · rw [if_pos hk] at e
            obtain ⟨H3, put, s3⟩ := dput_of s2.rel e3 ((s1.trans s2).ix _ _ hn) hk.1 hk.2 (s2.den hy) hz
            cases e
            exact ⟨H3, put, k _ _ ((s1.trans s2).trans s3)⟩
          · rw [if_neg hk] at e; cases e
        | _ => simp only [e3] at e; cases e
theorem appB_ok {n : Nat} {p : Addr} {m : EM} : BOk mg K n p (appB n m) (fun σ H Nx => tF mg K W0 m σ H fun y H1 => ∃ acc, H1 p = some (.lst acc) ∧ acc.length < sizeLine ∧ Nx (upd H1 p (.lst (acc ++ [y])))) := fun {ι g ρ σ H g' Nx} r hρ hn e k => by
  refine ⟨ι, g, ρ, r, hρ, ?_⟩
  unfold appB at e
  cases e1 : m ρ g with
  | bad => simp only [e1] at e; cases e
  | ex _ _ _ => simp only [e1] at e; cases e
  | ok vd g1 =>
    simp only [e1] at e
    intro ι1 H1 y s1 hy
    cases e3 : g1[n]? with
    | none => simp only [e3] at e; cases e
    | some o =>
      cases o with
      | lst es =>
        simp only [e3] at e
        by_cases hk : es.length < sizeLine
        · rw [if_pos hk] at e
          have hn1 := s1.ix _ _ hn
          obtain ⟨xs, hx, hxs⟩ := s1.rel.at_ n _ p e3 hn1
          cases e
          refine ⟨xs, hx, by rw [hxs.length]; exact hk, k _ _ (s1.trans (Step.write s1.rel hn1 (fun H' hT hP hH => ⟨_, hH, (DenAll.mono (fun _ _ h => h) hT hP _ _ hxs).append (.cons (Den.mono (fun _ _ h => h) hT hP _ _ hy) .nil)⟩) fun ob x z => by rw [hx] at z; cases z))⟩
        · rw [if_neg hk] at e; cases e
      | _ => simp only [e3] at e; cases e
variable {W : WX} {o : O} {B : Nat → BM} {im im1 : IM} {tg tg1 : Tg} {mt mt1 : EM} {vs vs1 : List Nat} {te : Addr → BT} {u : HO}
/-- both clauses, as the whole's meaning asks -/
theorem tF_two (hO : ∀ {ι : List Addr} {H : Hp} {a : Addr}, H a = some u → ObjR mg K ι H a o) (hB : ∀ n p, BOk mg K n p (B n) (te p)) (hm : ∀ i ∈ tgS tg, i ∈ vs) (hm1 : ∀ i ∈ tgS tg1, i ∈ vs1) : ∀ σ H Q, tF mg K W (mTwo o B im tg mt im1 tg1 mt1 vs vs1) σ H Q →
    tFI mg K W im σ H fun J H1 => ∀ D, H1 D = none → ∃ W : Nat → Nat → Hp → Prop, (∃ m, W 0 m (upd H1 D u)) ∧ ∀ i m H, W i m H → (J.stop i H ∧ Q (.ref D) H) ∨ (J.go i H ∧ ∃ Nx : Hp → Prop, (∀ H', Nx H' → ∃ m', m' < m ∧ W (i + 1) m' H') ∧
      ∀ x H', J.yld i H x H' → tgH K tg x (L2.wipe σ vs) H' fun σ2 H2 => L2.wipe σ2 vs = L2.wipe σ vs ∧ tFT mg K W0 mt σ2 H2 fun b H3 => if b = true then tFI mg K W0 im1 σ2 H3 fun J1 H4 =>
        ∃ W1 : Nat → Nat → Hp → Prop, (∃ m, W1 0 m H4) ∧ ∀ i m H, W1 i m H → (J1.stop i H ∧ Nx H) ∨ (J1.go i H ∧ ∃ Nx1 : Hp → Prop, (∀ H', Nx1 H' → ∃ m', m' < m ∧ W1 (i + 1) m' H') ∧
          ∀ x H', J1.yld i H x H' → tgH K tg1 x (L2.wipe σ2 vs1) H' fun σ3 H5 => L2.wipe σ3 vs1 = L2.wipe σ2 vs1 ∧ tFT mg K W0 mt1 σ3 H5 fun b H6 => if b = true then te D σ3 H6 Nx1 else Nx1 H6) else Nx H3) := fun σ Hs Q ⟨ιs, g, ρ, r, hρ, h⟩ => by
  refine ⟨ιs, g, ρ, r, hρ, ?_⟩
  unfold mTwo at h
  cases ei : im ρ g with
  | bad => rw [ei] at h; exact h
  | ex c fs g1 => rw [ei] at h; exact h
  | ok pr g1 =>
    obtain ⟨ds, c⟩ := pr
    rw [ei] at h
    simp only [R.bind_ok] at h
    intro ι0 H0 J s0 jok L hL
    by_cases hck : chkOk c (g1 ++ [o]) = true
    · rw [if_pos hck] at h
      cases el : twoOut im1 (B g1.length) c tg mt tg1 mt1 vs1 (wipeD ρ vs) ds (g1 ++ [o]) with
      | none => simp only [el] at h; exact h.elim
      | some gE =>
        simp only [el] at h
        have sl : Step mg K ι0 H0 (ι0 ++ [L]) (g1 ++ [o]) (upd H0 L u) := Step.lay s0.rel hL (hO upd_same)
        have hn : (ι0 ++ [L])[g1.length]? = some L := by rw [← s0.rel.len]; simp
        have s02 := s0.trans sl
        exact two_out (hB _ L) hm hm1 sl.rel (hρ.step s02) hn (fun i ι g H s hc => jok i ι g H (sl.trans s) hc) hck el fun ι H s => h ι H _ (s02.trans s) (.obj (s.ix _ _ hn))
    · rw [if_neg hck] at h; exact h.elim
end
section
variable {X : Cx} {W : WX} {im im1 : IM} {tg tg1 : Tg} {mt mt1 mk mv me : EM} {elt kx vx te iter te1 iter1 : Expr} {ifs ifs1 : List Expr} {scope : Scope} {own : List (Str × Nat)} {vs1 : List Nat} {pos : Pos}
theorem se_dc2 (t : Bool) (hu : X.A.units + 1 < cLine) (hc : X.calm = true) (hN : X.N.Nodup) (ok : BlkOk X.N X.env.scope scope own) (hv : ∀ i ∈ vs1, i ∈ own.map (·.2)) (hm : ∀ i ∈ tgS tg, i ∈ own.map (·.2)) (hm1 : ∀ i ∈ tgS tg1, i ∈ vs1) (hi : SI X W te iter im)
    (hg : ∀ (s : Shared) (H : Hp) (C : Addr) (cl : List (Str × Addr)) (fp : List Addr), SH (X.blk s H scope (compEnvC scope cl C X.env) fp) te tg)
    (ht : ∀ (s : Shared) (H : Hp) (C : Addr) (cl : List (Str × Addr)) (fp : List Addr), STs (X.blk s H scope (compEnvC scope cl C X.env) fp) ifs mt)
    (hi1 : ∀ (s : Shared) (H : Hp) (C : Addr) (cl : List (Str × Addr)) (fp : List Addr), SI (X.blk s H scope (compEnvC scope cl C X.env) fp) W0 te1 iter1 im1)
    (hg1 : ∀ (s : Shared) (H : Hp) (C : Addr) (cl : List (Str × Addr)) (fp : List Addr), SH (X.blk s H scope (compEnvC scope cl C X.env) fp) te1 tg1)
    (ht1 : ∀ (s : Shared) (H : Hp) (C : Addr) (cl : List (Str × Addr)) (fp : List Addr), STs (X.blk s H scope (compEnvC scope cl C X.env) fp) ifs1 mt1)
    (hk : ∀ (s : Shared) (H : Hp) (C : Addr) (cl : List (Str × Addr)) (fp : List Addr), SE (X.blk s H scope (compEnvC scope cl C X.env) fp) W0 kx mk)
    (he : ∀ (s : Shared) (H : Hp) (C : Addr) (cl : List (Str × Addr)) (fp : List Addr), SE (X.blk s H scope (compEnvC scope cl C X.env) fp) W0 vx mv)
    (hs : ∀ x, foldedSetIterable iter X.env x = pure x := by intro _; rfl) (hs1 : ∀ env x, foldedSetIterable iter1 env x = pure x := by intro _ _; rfl) :
    SE X W (.DictComp kx vx [⟨te, iter, ifs, 0⟩, ⟨te1, iter1, ifs1, 0⟩] scope pos) (mDc2 t im tg mt im1 tg1 mt1 mk mv (own.map (·.2)) vs1) :=
  ⟨PE.imp (pe_dc2G t hu hc hN hi.pi ok hv (fun s H C cl fp => (hg s H C cl fp).pg) (fun s H C cl fp => (ht s H C cl fp).pts) (fun s H C cl fp => (hi1 s H C cl fp).pi) (fun s H C cl fp => (hg1 s H C cl fp).pg) (fun s H C cl fp => (ht1 s H C cl fp).pts) (fun s H C cl fp => (hk s H C cl fp).pe) (fun s H C cl fp => (he s H C cl fp).pe) hs hs1)
    (tF_two (fun h => ⟨_, h, dE_den t⟩) (fun _ _ => putB_ok) hm hm1)⟩
theorem se_lc2 (hc : X.calm = true) (hN : X.N.Nodup) (ok : BlkOk X.N X.env.scope scope own) (hv : ∀ i ∈ vs1, i ∈ own.map (·.2)) (hm : ∀ i ∈ tgS tg, i ∈ own.map (·.2)) (hm1 : ∀ i ∈ tgS tg1, i ∈ vs1) (hi : SI X W te iter im)
    (hg : ∀ (s : Shared) (H : Hp) (C : Addr) (cl : List (Str × Addr)) (fp : List Addr), SH (X.blk s H scope (compEnvC scope cl C X.env) fp) te tg)
    (ht : ∀ (s : Shared) (H : Hp) (C : Addr) (cl : List (Str × Addr)) (fp : List Addr), STs (X.blk s H scope (compEnvC scope cl C X.env) fp) ifs mt)
    (hi1 : ∀ (s : Shared) (H : Hp) (C : Addr) (cl : List (Str × Addr)) (fp : List Addr), SI (X.blk s H scope (compEnvC scope cl C X.env) fp) W0 te1 iter1 im1)
    (hg1 : ∀ (s : Shared) (H : Hp) (C : Addr) (cl : List (Str × Addr)) (fp : List Addr), SH (X.blk s H scope (compEnvC scope cl C X.env) fp) te1 tg1)
    (ht1 : ∀ (s : Shared) (H : Hp) (C : Addr) (cl : List (Str × Addr)) (fp : List Addr), STs (X.blk s H scope (compEnvC scope cl C X.env) fp) ifs1 mt1)
    (he : ∀ (s : Shared) (H : Hp) (C : Addr) (cl : List (Str × Addr)) (fp : List Addr), SE (X.blk s H scope (compEnvC scope cl C X.env) fp) W0 elt me)
    (hs : ∀ x, foldedSetIterable iter X.env x = pure x := by intro _; rfl) (hs1 : ∀ env x, foldedSetIterable iter1 env x = pure x := by intro _ _; rfl) :
    SE X W (.ListComp elt [⟨te, iter, ifs, 0⟩, ⟨te1, iter1, ifs1, 0⟩] scope pos) (mLc2 im tg mt im1 tg1 mt1 me (own.map (·.2)) vs1) :=
  ⟨PE.imp (pe_lc2 hc hN hi.pi ok hv (fun s H C cl fp => (hg s H C cl fp).pg) (fun s H C cl fp => (ht s H C cl fp).pts) (fun s H C cl fp => (hi1 s H C cl fp).pi) (fun s H C cl fp => (hg1 s H C cl fp).pg) (fun s H C cl fp => (ht1 s H C cl fp).pts) (fun s H C cl fp => (he s H C cl fp).pe) hs hs1)
    (tF_two (u := .lst []) (fun h => ⟨[], h, .nil⟩) (fun _ _ => appB_ok) hm hm1)⟩
theorem ss_setLc2 (i : Nat) {y : Str} {py spos : Pos} (hc : X.calm = true) (hN : X.N.Nodup) (ok : BlkOk X.N X.env.scope scope own) (hv : ∀ i ∈ vs1, i ∈ own.map (·.2)) (hm : ∀ i ∈ tgS tg, i ∈ own.map (·.2)) (hm1 : ∀ i ∈ tgS tg1, i ∈ vs1) (hi : SI X W te iter im)
    (hg : ∀ (s : Shared) (H : Hp) (C : Addr) (cl : List (Str × Addr)) (fp : List Addr), SH (X.blk s H scope (compEnvC scope cl C X.env) fp) te tg)
    (ht : ∀ (s : Shared) (H : Hp) (C : Addr) (cl : List (Str × Addr)) (fp : List Addr), STs (X.blk s H scope (compEnvC scope cl C X.env) fp) ifs mt)
    (hi1 : ∀ (s : Shared) (H : Hp) (C : Addr) (cl : List (Str × Addr)) (fp : List Addr), SI (X.blk s H scope (compEnvC scope cl C X.env) fp) W0 te1 iter1 im1)
    (hg1 : ∀ (s : Shared) (H : Hp) (C : Addr) (cl : List (Str × Addr)) (fp : List Addr), SH (X.blk s H scope (compEnvC scope cl C X.env) fp) te1 tg1)
    (ht1 : ∀ (s : Shared) (H : Hp) (C : Addr) (cl : List (Str × Addr)) (fp : List Addr), STs (X.blk s H scope (compEnvC scope cl C X.env) fp) ifs1 mt1)
    (he : ∀ (s : Shared) (H : Hp) (C : Addr) (cl : List (Str × Addr)) (fp : List Addr), SE (X.blk s H scope (compEnvC scope cl C X.env) fp) W0 elt me)
    (hy : X.N[i]? = some y := by rfl) (hyl : X.env.scope.names.lookup y = some .local := by rfl) (hsw : swapsWith (.ListComp elt [⟨te, iter, ifs, 0⟩, ⟨te1, iter1, ifs1, 0⟩] scope pos) (some (.Name y py)) spos.line X.env = pure true := by rfl)
    (hs : ∀ x, foldedSetIterable iter X.env x = pure x := by intro _; rfl) (hs1 : ∀ env x, foldedSetIterable iter1 env x = pure x := by intro _ _; rfl) :
    SS X W (.Assign [.Name y py] (.ListComp elt [⟨te, iter, ifs, 0⟩, ⟨te1, iter1, ifs1, 0⟩] scope pos) spos) (sAsg (mLc2 im tg mt im1 tg1 mt1 me (own.map (·.2)) vs1) (gNm i)) :=
  ⟨PS.imp (ps_setLc2 (te := tF X.mg X.K W0 me) (wi := tFI X.mg X.K W im) (g := tgH X.K tg) (tt := tFT X.mg X.K W0 mt) (wi1 := tFI X.mg X.K W0 im1) (g1 := tgH X.K tg1) (tt1 := tFT X.mg X.K W0 mt1) hc hN hy hyl hsw hi.pi ok hv (fun s H C cl fp => (hg s H C cl fp).pg) (fun s H C cl fp => (ht s H C cl fp).pts) (fun s H C cl fp => (hi1 s H C cl fp).pi) (fun s H C cl fp => (hg1 s H C cl fp).pg) (fun s H C cl fp => (ht1 s H C cl fp).pts) (fun s H C cl fp => (he s H C cl fp).pe) hs hs1) fun D σ H ⟨ι, g, ρ, r, hρ, h⟩ => by
    have z : tF X.mg X.K W (mLc2 im tg mt im1 tg1 mt1 me (own.map (·.2)) vs1) σ H (fun x H1 => gName i x σ H1 D.nx) := ⟨ι, g, ρ, r, hρ, RunX.mono (RunS.bind (Dm := fun ι H v d => Den X.K ι H v d) hρ h) fun v H1 ⟨ι1, g1, d, s1, hd, h1⟩ => h1 ι1 H1 _ (Step.refl s1.rel) ((hρ.step s1).set i hd)⟩
    have y := tF_two (u := .lst []) (o := .lst []) (B := fun n => appB n me) (te := fun p σ H Nx => tF X.mg X.K W0 me σ H fun y H1 => ∃ acc, H1 p = some (.lst acc) ∧ acc.length < sizeLine ∧ Nx (upd H1 p (.lst (acc ++ [y])))) (fun h => ⟨[], h, .nil⟩) (fun _ _ => appB_ok) hm hm1 σ H _ z
    exact y⟩
end
end L3

/-! L3W: list.remove, count of data; texts compared; a text walked. -/
namespace L3
open PySem PySem.Spec PyProof.Rows L2
open PySem.W (EachIs)
/-- data of a list's items, that == decides -/
def fitL (es : List D) (d : D) : Bool := es.all (D.fit 16) && D.fit 16 d && decide (es.length ≤ sizeLine)
def opRemove : OpM := fun o ds g => match o, ds with
  | .obj n, [d] => match g[n]? with
    | some (.lst es) => if fitL es d = true then match es.findIdx? (fun e => peq e d) with
        | some j => some (.non, g.set n (.lst (es.eraseIdx j)))
        | none => none
      else none
    | _ => none
  | _, _ => none
theorem reads_all {h : Heap} {us : List Value} {ds : List D} (e : EachIs (fun v (b : D) => ∃ as, Reads h v b.py as) us ds) : ∃ as, ReadsAll h us (D.pys ds) as := by
  induction e with
  | nil => exact ⟨[], .nil⟩
  | cons a b ih =>
    obtain ⟨as, r⟩ := a
    obtain ⟨bs, rr⟩ := ih
    exact ⟨as ++ bs, .cons r rr⟩
theorem pys_at : ∀ {ds : List D} {i : Nat}, (D.pys ds)[i]? = (ds[i]?).map D.py
  | [], _ => by simp [D.pys]
  | d :: ds, 0 => by simp [D.pys]
  | d :: ds, i + 1 => by simp only [D.pys, List.getElem?_cons_succ]; exact pys_at
theorem pys_len : ∀ {ds : List D}, (D.pys ds).length = ds.length
  | [] => rfl
  | d :: ds => by simp [D.pys, pys_len]
theorem pys_lay {ds : List D} (h : ∀ d ∈ ds, D.fit 16 d = true) : PyData.canLayAll0 (D.pys ds) = true := by
  induction ds with
  | nil => rfl
  | cons d ds ih =>
    simp only [D.pys, PyData.canLayAll0, Bool.and_eq_true]
    exact ⟨(D.fit_spec 16 d (h d List.mem_cons_self)).1, ih fun e he => h e (List.mem_cons_of_mem _ he)⟩
section
variable {X : Cx}
theorem mr_remove (hu : X.A.units + 65 < cLine) : MtR X "list.remove" (rFM X.mg X.K opRemove) := by
  intro pins s σ H x xs v us Q I rx rxs ⟨ι, g, o, ds, r, ho, hds, h⟩
  cases ho with
  | @obj a n hn =>
    cases hds with
    | nil => exact h.elim
    | @cons y vs d ds hd hvs =>
      cases hvs with
      | cons _ _ => exact h.elim
      | nil =>
        cases rx
        obtain ⟨u, rfl, ru⟩ := rxs.one
        cases e1 : g[n]? with
        | none => simp only [opRemove, e1] at h; exact h.elim
        | some ob =>
          cases ob with
          | lst es =>
            simp only [opRemove, e1] at h
            by_cases hf : fitL es d = true
            · rw [if_pos hf] at h
              simp only [fitL, Bool.and_eq_true, decide_eq_true_eq] at hf
              obtain ⟨⟨f1, f2⟩, f3⟩ := hf
              have f1 := List.all_eq_true.mp f1
              cases ej : es.findIdx? (fun e => peq e d) with
              | none => simp only [ej] at h; exact h.elim
              | some j =>
                simp only [ej] at h
                obtain ⟨h1, h2, h3⟩ := List.findIdx?_eq_some_iff_getElem.mp ej
                obtain ⟨zs, hz, hzs⟩ := r.at_ n _ a e1 hn
                obtain ⟨z, its, m, rv, hl, e⟩ := I.lstM hz
                obtain ⟨as, ra⟩ := reads_all (each_reads I f1 hzs rv)
                obtain ⟨bs, r1⟩ := Dp.reads I _ _ _ (dp_of 16 _ _ f2 hd) ru
                have hxs := pys_lay f1
                have hmap : its.map (SeqAt.readOf s.heap) = D.pys es := SeqAt.readsAll_map _ its as hxs ra
                have hlen : its.length = es.length := by rw [← hl, hzs.length]
                have at_ : ∀ (i : Nat) (hi : i < its.toArray.size) (hi2 : i < es.length), SeqAt.readOf s.heap its.toArray[i] = es[i].py := fun i hi hi2 => by
                  have hml : i < its.length := by simpa using hi
                  have q : (its.map (SeqAt.readOf s.heap))[i]? = some (es[i].py) := by rw [hmap, pys_at, List.getElem?_eq_getElem hi2]; rfl
                  rw [List.getElem?_map, List.getElem?_eq_getElem hml] at q
                  have q1 : SeqAt.readOf s.heap its[i] = es[i].py := Option.some.inj q
                  simpa using q1
                have hj : j < its.toArray.size := by rw [List.size_toArray, hlen]; exact h1
                have hroom : X.A.units + 1 + min (PyData.depthAll (D.pys es)) d.py.depth < cLine := by
                  have := (D.fit_spec 16 d f2).2
                  have h2 : min (PyData.depthAll (D.pys es)) d.py.depth ≤ d.py.depth := Nat.min_le_right _ _
                  omega
                refine call_meets PySem.F.slot_list_remove ⟨_, e, rfl⟩ PySem.F.entry_list_remove (PySem.F.args_list_remove_2 _ _)
                  (SeqAt.list_removeAt a its.toArray m none #[] u (fun w => PyData.eqv (SeqAt.readOf s.heap w) d.py) j hj ?_ (fun i hi hij => ?_) (by rw [List.size_toArray, ← hl]; exact z)) ⟨e, SeqAt.items_eqAt (vs := its.toArray) (show ReadsAll s.heap its.toArray.toList (D.pys es) as from ra) r1 hxs (D.fit_spec 16 d f2).1 hroom, ?_⟩
                · show PyData.eqv (SeqAt.readOf s.heap its.toArray[j]) d.py = true
                  rw [at_ j hj h1]
                  exact h2
                · have hi2 : i < es.length := by rw [List.size_toArray, hlen] at hi; exact hi
                  show PyData.eqv (SeqAt.readOf s.heap its.toArray[i]) d.py = false
                  rw [at_ i hi hi2]
                  have := h3 i hij
                  simpa [peq] using this
                · refine ⟨.non, _, I.lset (its' := its.eraseIdx j) hz e ?_ (rv.eraseIdx j) ?_, rfl, RunO.put (r := r) h hn hz (hzs.eraseIdx j) .non⟩
                  · show its.toArray.eraseIdxIfInBounds j = (its.eraseIdx j).toArray
                    rw [List.eraseIdxIfInBounds_toArray]
                  · have := List.length_eraseIdx_le zs j
                    omega
            · rw [if_neg hf] at h; exact h.elim
          | _ => simp only [opRemove, e1] at h; exact h.elim
  | _ => exact h.elim

/-! ### texts compared, a text walked -/
def strLt (x y : Str) : Bool := decide (x.cps.toList < y.cps.toList)
def opLtX : Op2 := fun d e g => match d, e with
  | .int i, .int j => some (.bl (decide (i < j)), g)
  | .str x, .str y => some (.bl (strLt x y), g)
  | _, _ => none
def opLeX : Op2 := fun d e g => match d, e with
  | .int i, .int j => some (.bl (decide (i ≤ j)), g)
  | .str x, .str y => some (.bl (!strLt y x), g)
  | _, _ => none
def opGtX : Op2 := fun d e g => match d, e with
  | .int i, .int j => some (.bl (decide (j < i)), g)
  | .str x, .str y => some (.bl (strLt y x), g)
  | _, _ => none
def opGeX : Op2 := fun d e g => match d, e with
  | .int i, .int j => some (.bl (decide (j ≤ i)), g)
  | .str x, .str y => some (.bl (!strLt x y), g)
  | _, _ => none
def rSS (f : Str → Str → Bool) : R2 := fun x y H Q => ∃ a b, x = .str a ∧ y = .str b ∧ Q (.bl (f a b)) H
theorem op_ltS : OpR X (compareOp .Lt) (rSS fun a b => strLt a b) := fun pins s σ H x y v u Q I rx ry ⟨a, b, ea, eb, q⟩ => by
  subst ea eb
  obtain ⟨t, rfl⟩ := rx
  obtain ⟨t2, rfl⟩ := ry
  exact PyProof.Rows.lt_str ⟨.bl _, H, I, rfl, q⟩
theorem op_leS : OpR X (compareOp .LtE) (rSS fun a b => !strLt b a) := fun pins s σ H x y v u Q I rx ry ⟨a, b, ea, eb, q⟩ => by
  subst ea eb
  obtain ⟨t, rfl⟩ := rx
  obtain ⟨t2, rfl⟩ := ry
  exact PySem.P.le_str ⟨.bl _, H, I, rfl, q⟩
theorem op_gtS : OpR X (compareOp .Gt) (rSS fun a b => strLt b a) := fun pins s σ H x y v u Q I rx ry ⟨a, b, ea, eb, q⟩ => by
  subst ea eb
  obtain ⟨t, rfl⟩ := rx
  obtain ⟨t2, rfl⟩ := ry
  exact PySem.P.gt_str ⟨.bl _, H, I, rfl, q⟩
theorem op_geS : OpR X (compareOp .GtE) (rSS fun a b => !strLt a b) := fun pins s σ H x y v u Q I rx ry ⟨a, b, ea, eb, q⟩ => by
  subst ea eb
  obtain ⟨t, rfl⟩ := rx
  obtain ⟨t2, rfl⟩ := ry
  exact PySem.P.ge_str ⟨.bl _, H, I, rfl, q⟩
theorem or_ltX : OpR X (compareOp .Lt) (rF2 X.mg X.K opLtX) := OpR.any fun x y H Q ⟨ι, g, d, e, r, hd, he, h⟩ => by
  cases hd with
  | int i => cases he with
    | int j => exact ⟨_, op_lt, i, j, rfl, rfl, RunO.plain r h (.bl _)⟩
    | _ => exact h.elim
  | str i => cases he with
    | str j => exact ⟨_, op_ltS, i, j, rfl, rfl, RunO.plain r h (.bl _)⟩
    | _ => exact h.elim
  | _ => exact h.elim
theorem or_leX : OpR X (compareOp .LtE) (rF2 X.mg X.K opLeX) := OpR.any fun x y H Q ⟨ι, g, d, e, r, hd, he, h⟩ => by
  cases hd with
  | int i => cases he with
    | int j => exact ⟨_, op_le, i, j, rfl, rfl, RunO.plain r h (.bl _)⟩
    | _ => exact h.elim
  | str i => cases he with
    | str j => exact ⟨_, op_leS, i, j, rfl, rfl, RunO.plain r h (.bl _)⟩
    | _ => exact h.elim
  | _ => exact h.elim
theorem or_gtX : OpR X (compareOp .Gt) (rF2 X.mg X.K opGtX) := OpR.any fun x y H Q ⟨ι, g, d, e, r, hd, he, h⟩ => by
  cases hd with
  | int i => cases he with
    | int j => exact ⟨_, op_gt, i, j, rfl, rfl, RunO.plain r h (.bl _)⟩
    | _ => exact h.elim
  | str i => cases he with
    | str j => exact ⟨_, op_gtS, i, j, rfl, rfl, RunO.plain r h (.bl _)⟩
    | _ => exact h.elim
  | _ => exact h.elim
theorem or_geX : OpR X (compareOp .GtE) (rF2 X.mg X.K opGeX) := OpR.any fun x y H Q ⟨ι, g, d, e, r, hd, he, h⟩ => by
  cases hd with
  | int i => cases he with
    | int j => exact ⟨_, op_ge, i, j, rfl, rfl, RunO.plain r h (.bl _)⟩
    | _ => exact h.elim
  | str i => cases he with
    | str j => exact ⟨_, op_geS, i, j, rfl, rfl, RunO.plain r h (.bl _)⟩
    | _ => exact h.elim
  | _ => exact h.elim
def signs (x : Str) : List D := x.cps.toList.map fun c => .str ⟨#[c]⟩
theorem jok_str {mg : Str → Option Value} {K : PySem.W.Frag} {ι0 : List Addr} {H0 : Hp} {x : Str} : JOk mg K (Its x) (signs x) [] ι0 H0 := fun i ι g H s hc => by
  refine ⟨fun d hd => ?_, fun hl => ?_⟩
  · unfold signs at hd
    rw [List.getElem?_map, Array.getElem?_toList] at hd
    cases e : x.cps[i]? with
    | none => rw [e] at hd; cases hd
    | some c =>
      rw [e] at hd
      cases hd
      refine ⟨(Array.getElem?_eq_some_iff.mp e).1, fun v H' ⟨e1, c', e2, e3⟩ => ?_⟩
      subst e1 e3
      rw [e] at e2
      cases e2
      exact ⟨Step.refl s.rel, .str _⟩
  · show x.cps.size ≤ i
    subst hl
    simp [signs]
def mItT (m : EM) : IM := fun ρ g => (m ρ g).bind fun d g1 => match d with
  | .str x => .ok (signs x, []) g1
  | _ => .bad
theorem si_txt {W : WX} {tg e : Expr} {m : EM} (h : SE X W e m) : SI X W tg e (mItT m) := ⟨PI.any fun σ H Q ⟨ι, g, ρ, r, hρ, q⟩ => by
  refine ⟨_, pi_str h.pe, ι, g, ρ, r, hρ, ?_⟩
  have q' : RunI X.mg X.K _ ι H Q (mItT m ρ g) := q
  unfold mItT at q'
  cases em : m ρ g with
  | ok d g1 =>
    rw [em] at q'
    simp only [R.bind_ok] at q'
    cases d with
    | str x =>
      intro ι1 H1 v s hv
      cases hv
      exact ⟨x, rfl, q' ι1 H1 _ s jok_str⟩
    | _ => exact q'.elim
  | ex c fs g1 => rw [em] at q' ; exact q'
  | bad => rw [em] at q'; exact q'.elim⟩
end
end L3

/-! L3X: calls with keywords, keyword-only parameters, defaults. -/
namespace L3
open PySem PySem.Spec PyProof.Rows L2
/-- keywords' values -/
structure SK (X : Cx) (W : WX) (kws : List Keyword) (m : AM) : Prop where
  pk : PK X kws (tFA X.mg X.K W m)
theorem PK.imp {X : Cx} {kws : List Keyword} {t t' : TA} (h : PK X kws t) (f : ∀ σ H Q, t' σ H Q → t σ H Q) : PK X kws t' := ⟨fun pos pins s σ H Q I q => h.run pos pins s σ H Q I (f σ H Q q)⟩
def mMakeK (c : Str) (M : FM) (np n m : Nat) (gD : List D → List D → List D) (a ak : AM) : EM := fun ρ g => (a ρ g).bind fun ds g1 => (ak ρ g1).bind fun es g2 => if ds.length = n ∧ es.length = m ∧ (gD (.obj g2.length :: ds) es).length = np then (M (gD (.obj g2.length :: ds) es) (g2 ++ [.ins c []])).bind fun d g3 => match d with
  | .non => .ok (.obj g2.length) g3
  | _ => .bad
  else .bad
/-- the parameters' order at values and at data -/
def Ord (K : PySem.W.Frag) (gV : List V → List V → List V) (gD : List D → List D → List D) : Prop := ∀ {ι : List Addr} {H : Hp} {vs zs : List V} {ds es : List D}, DenAll K ι H vs ds → DenAll K ι H zs es → DenAll K ι H (gV vs zs) (gD ds es)
section
variable {X : Cx} {W : WX} {kws : List Keyword} {nm : Option Str} {e : Expr} {es : List Expr} {kpos p pos : Pos} {m : EM} {r ma mk : AM} {C f : Addr} {fd : FuncData} {ps ks : List Str} {k n np : Nat} {M : FM} {g : List Value → List Value → List Value} {gV : List V → List V → List V} {gD : List D → List D → List D}
theorem sk_nil : SK X W [] mNil := ⟨PK.imp pk_nil fun σ H Q ⟨ι, g, ρ, r, hρ, h⟩ => h ι H [] (Step.refl r) .nil⟩
theorem sk_cons (ha : SE X W e m) (hr : SK X W kws r) : SK X W (⟨nm, e, kpos⟩ :: kws) (mCons m r) := ⟨PK.imp (pk_cons ha.pe hr.pk) tFA_cons⟩
theorem run_makeKS {pins : List (Addr × Obj)} {σ : L2.St} {H : Hp} {s : Shared} {Q : VK} {us ws : List Value} {vs zs : List V} {sp : Sp} {E : L2.St → XK} (Mk0 : Mk X.K C f) (F : FnOk X.prog X.w X.K X.mg X.base (L2.CX X.prog X.w) k f fd ps sp) (hr : Room (k + 1) X.A) (hb : KBn X.K fd ps (n + 1) ks g gV)
    (hx : ∀ σ, PassesAt (L2.CX X.prog X.w) X σ (E σ)) (I : Inv X pins σ H s) (rv : Vals vs us) (rz : Vals zs ws) (l1 : vs.length = n) (l2 : zs.length = ks.length)
    (h : ∀ x dx, H x = none → H dx = none → dx ≠ x → sp (gV (.ref x :: vs) zs) (upd (upd H dx (.own x)) x (.ins C dx [])) (fun v H2 => v = .non ∧ Q (.ref x) H2) (E σ)) :
    wpAny (model X.prog X.w) X.A (call (.ref C) us (ks.zip ws)) (EP X pins σ Q) X.xe s := by
  have fr1 : H (s.heap.objs.size + 1) = none := I.hok.fresh (Nat.le_succ _)
  have fr0 : H s.heap.objs.size = none := I.hok.fresh (Nat.le_refl _)
  have asked := h (s.heap.objs.size + 1) s.heap.objs.size fr1 fr0 (Nat.ne_of_lt (Nat.lt_succ_self _))
  have J := Inv.made (C := C) I
  have rr : Vals (V.ref (s.heap.objs.size + 1) :: vs) (Value.ref (s.heap.objs.size + 1) :: us) := .cons rfl rv
  have ll : (Value.ref (s.heap.objs.size + 1) :: us).length = n + 1 := by rw [List.length_cons, ← rv.length, l1]
  refine wpAny_call (make_map (f := f) I.kIn Mk0.makes Mk0.init (beq_iff_eq.mp Mk0.fn) (codeAny_mono (F.run _ X.stack _ _ ⟨Value.ref (s.heap.objs.size + 1) :: us, ks.zip ws⟩ (g (Value.ref (s.heap.objs.size + 1) :: us) ws) _ _ (E σ) (hr.make C us (ks.zip ws))
    (J.env0.make C us (ks.zip ws)) (hb.to _ (Value.ref (s.heap.objs.size + 1) :: us) ws J.kIn ll (rz.length.symm.trans l2)) (hb.rel rr rz) asked) fun res s' got => ?_))
  cases res with
  | error e => exact hx σ pins _ _ e s' J got
  | ok fl =>
    cases fl with
    | ret u =>
      obtain ⟨v, H', J', rv, ev, fin⟩ := J.after got
      subst ev
      exact ⟨rv, ⟨V.ref (s.heap.objs.size + 1), H', J', rfl, fin⟩⟩
    | next => exact False.elim got
    | brk => exact False.elim got
    | cont => exact False.elim got
theorem make_runK {c : Str} {ι : List Addr} {g : GH} {H : Hp} {vs zs : List V} {ds es : List D} {Q : VK} {σ : L2.St} (hO : Ord X.K gV gD) (r : Rel X.mg X.K ι g H) (hC : X.mg c = some (.ref C)) (hd : DenAll X.K ι H vs ds) (hz : DenAll X.K ι H zs es)
    (hl : (gD (.obj g.length :: ds) es).length = np)
    (h : RunE X.mg X.K (fun c d H' => W c d σ H') ι H Q ((M (gD (.obj g.length :: ds) es) (g ++ [.ins c []])).bind fun d g2 => match d with
      | .non => .ok (.obj g.length) g2
      | _ => .bad)) : ∀ x dx, H x = none → H dx = none → dx ≠ x → spF X.mg X.K np M (gV (.ref x :: vs) zs) (upd (upd H dx (.own x)) x (.ins C dx [])) (fun v H2 => v = .non ∧ Q (.ref x) H2) (WE W σ) := fun x dx nx nd ne => by
  have s := step_make r hC nx nd ne
  refine ⟨_, _, gD (.obj g.length :: ds) es, hl, s.rel, hO (.cons (.obj (by rw [← r.len]; simp)) (s.denAll hd)) (s.denAll hz), ?_⟩
  refine RunX.mono (RunX.bind (Dn := fun ι H v d => Den X.K ι H v d) (RunX.step h s)) fun v H2 ⟨ι2, g2, d, s2, hv, h2⟩ => ?_
  cases hv with
  | non => exact ⟨rfl, h2 ι2 H2 (.ref x) (Step.refl s2.rel) (.obj (s2.ix _ _ (by rw [← r.len]; simp)))⟩
  | _ => exact h2.elim
theorem se_makeK {c : Str} {kn : Nat} (Mk0 : Mk X.K C f) (F : FnOk X.prog X.w X.K X.mg X.base (L2.CX X.prog X.w) k f fd ps (spF X.mg X.K np M)) (hr : Room (k + 1) X.A) (hC : X.mg c = some (.ref C)) (hb : KBn X.K fd ps (n + 1) ks g gV) (hO : Ord X.K gV gD) (tk : Takes X W)
    (ha : SA X W (e :: es) ma) (hk : SK X W kws mk) (hg : Gl X c := by rfl) (hdb : (c == ("__debug__" : Str)) = false := by decide)
    (hall : (backToKw pos (keywordEach kws X.env)).all (·.1.isSome) = true := by rfl) (hks : (backToKw pos (keywordEach kws X.env)).filterMap (·.1) = ks := by rfl)
    (he : starEach (e :: es) X.env = (false, eval e X.env) :: starEach es X.env := by rfl) (hpl : ((backTo pos (starEach (e :: es) X.env)).any (·.1) || (backToKw pos (keywordEach kws X.env)).any (·.1.isNone)) = false := by rfl) (hkn : ks.length = kn := by rfl) :
    SE X W (.Call (.Name c p) (e :: es) kws pos) (mMakeK c M np n kn gD ma mk) := ⟨⟨fun pins s σ H Q I ⟨ι, g, ρ, r, hρ, h⟩ => by
  subst hkn
  refine wpAny_Call_Name_kw (ld_glob I hg hC ?_ hdb)
  refine PySem.W.callWith_KW (h₀ := X.base) I.ok.mod.kin Mk0.kp hall (thn (ha.pa.run pos pins s σ H _ I ⟨ι, g, ρ, r, hρ, RunX.bind (Dn := fun ι H v d => DenAll X.K ι H v d) h⟩) fun us s1 ⟨vs, H1, I1, rv, ι1, g1, ds, s1', hds, h1⟩ => ?_) hpl he
  refine thn (hk.pk.run pos pins s1 σ H1 _ I1 ⟨ι1, g1, ρ, s1'.rel, hρ.step s1', RunX.bind (Dn := fun ι H v d => DenAll X.K ι H v d) h1⟩) fun ws s2 ⟨zs, H2, I2, rz, ι2, g2, es', s2', hes, h2⟩ => ⟨I2.kIn, ?_⟩
  rw [hks]
  by_cases hl : ds.length = n ∧ es'.length = ks.length ∧ (gD (.obj g2.length :: ds) es').length = np
  · rw [if_pos hl] at h2
    exact run_makeKS (E := WE W) Mk0 F hr hb (fun σ => passAt tk σ) I2 rv rz (by rw [hds.length]; exact hl.1) (by rw [hes.length]; exact hl.2.1) (make_runK hO s2'.rel hC (s2'.denAll hds) hes hl.2.2 h2)
  · rw [if_neg hl] at h2; exact h2.elim⟩⟩
end
end L3

/-! L3Y: x in a module's tuple; keyword-only parameters' binding. -/
namespace L3
open PySem PySem.Spec PyProof.Rows L2
def mGIn (ds : List D) (neg : Bool) (m : EM) : EM := fun ρ g => (m ρ g).bind fun d g1 => if D.fit 16 d = true ∧ D.fit 16 (.tup ds) = true then .ok (.bl (if neg then !ds.any fun z => peq z d else ds.any fun z => peq z d)) g1 else .bad
section
variable {X : Cx} {W : WX} {pos p : Pos} {e : Expr} {m : EM} {ds : List D} {vs : List V} {x : Str} {a : Addr}
theorem gin_run (neg : Bool) (T : ∀ H, SqT X.K H a vs) (hv : ∀ ι H, DenAll X.K ι H vs ds) {σ : L2.St} {H : Hp} {Q : VK} (h : tF X.mg X.K W (mGIn ds neg m) σ H Q) : tF X.mg X.K W m σ H fun v H1 => rInTup X.K neg v (.ref a) H1 Q := by
  obtain ⟨ι, g, ρ, r, hρ, h⟩ := h
  refine ⟨ι, g, ρ, r, hρ, RunX.mono (RunX.bind (Dn := fun ι H v d => Den X.K ι H v d) h) fun v H1 ⟨ι1, g1, d, s1, hd, h1⟩ => ?_⟩
  by_cases hf : D.fit 16 d = true ∧ D.fit 16 (.tup ds) = true
  · rw [if_pos hf] at h1
    have s2 := D.fit_shaped (by decide) hf.2
    simp only [D.py] at s2
    have f2 : ∀ d ∈ ds, D.fit 15 d = true := fun d hd => List.all_eq_true.mp (show ds.all (D.fit 15) = true from hf.2) d hd
    refine ⟨d.py, D.pys ds, dp_of 16 _ _ hf.1 hd, .tup (T H1) (dps_of 15 _ _ f2 (hv ι1 H1)), D.fit_shaped (by decide) hf.1, s2, ?_⟩
    have q := pys_any d ds
    cases neg with
    | true => rw [if_pos rfl] at h1 ⊢; rw [q]; exact h1 ι1 H1 _ (Step.refl s1.rel) (.bl _)
    | false => rw [if_neg (by decide)] at h1 ⊢; rw [q]; exact h1 ι1 H1 _ (Step.refl s1.rel) (.bl _)
  · rw [if_neg hf] at h1; exact h1.elim
theorem se_gIn (hg : Gl X x) (hm : X.mg x = some (.ref a)) (T : ∀ H, SqT X.K H a vs) (hv : ∀ ι H, DenAll X.K ι H vs ds) (hu : X.A.units + 65 < cLine) (he : SE X W e m) (hd : (x == ("__debug__" : Str)) = false := by decide) (hn : behindInMarks .In (.Name x p) = false := by rfl) : SE X W (.Compare e [.In] [.Name x p] pos) (mGIn ds false m) :=
  ⟨PE.imp (pe_cmpR (op_inTup hu) he.pe (pe_glob (v := .ref a) hg hm rfl hd) hn) fun σ H Q h => gin_run false T hv h⟩
theorem se_gNotIn (hg : Gl X x) (hm : X.mg x = some (.ref a)) (T : ∀ H, SqT X.K H a vs) (hv : ∀ ι H, DenAll X.K ι H vs ds) (hu : X.A.units + 65 < cLine) (he : SE X W e m) (hd : (x == ("__debug__" : Str)) = false := by decide) (hn : behindInMarks .NotIn (.Name x p) = false := by rfl) : SE X W (.Compare e [.NotIn] [.Name x p] pos) (mGIn ds true m) :=
  ⟨PE.imp (pe_cmpR (op_notInTup hu) he.pe (pe_glob (v := .ref a) hg hm rfl hd) hn) fun σ H Q h => gin_run true T hv h⟩
theorem st_gIn (hg : Gl X x) (hm : X.mg x = some (.ref a)) (T : ∀ H, SqT X.K H a vs) (hv : ∀ ι H, DenAll X.K ι H vs ds) (hu : X.A.units + 65 < cLine) (he : SE X W e m) (hd : (x == ("__debug__" : Str)) = false := by decide) (hn : behindInMarks .In (.Name x p) = false := by rfl) : ST X W (.Compare e [.In] [.Name x p] pos) (mGIn ds false m) :=
  ⟨PT.imp (pt_cmpR (op_inTup hu) he.pe (pe_glob (v := .ref a) hg hm rfl hd) hn) fun σ H Q h => gin_run false T hv (tFT_of σ H Q h)⟩
theorem st_gNotIn (hg : Gl X x) (hm : X.mg x = some (.ref a)) (T : ∀ H, SqT X.K H a vs) (hv : ∀ ι H, DenAll X.K ι H vs ds) (hu : X.A.units + 65 < cLine) (he : SE X W e m) (hd : (x == ("__debug__" : Str)) = false := by decide) (hn : behindInMarks .NotIn (.Name x p) = false := by rfl) : ST X W (.Compare e [.NotIn] [.Name x p] pos) (mGIn ds true m) :=
  ⟨PT.imp (pt_cmpR (op_notInTup hu) he.pe (pe_glob (v := .ref a) hg hm rfl hd) hn) fun σ H Q h => gin_run true T hv (tFT_of σ H Q h)⟩
end
/-- a module's tuple of texts -/
theorem den_strs {K : PySem.W.Frag} {ι : List Addr} {H : Hp} : ∀ l : List Str, DenAll K ι H ((l.map He.Dv.str).map (He.Dv.v K)) (l.map D.str)
  | [] => .nil
  | x :: l => .cons (.str x) (den_strs l)
/-! ### one keyword-only parameter, told or left out -/
theorem ord_mid {K : PySem.W.Frag} {mv : List V} {md : List D} (h : ∀ ι H, DenAll K ι H mv md) : Ord K (fun vs zs => vs ++ (mv ++ zs)) (fun ds es => ds ++ (md ++ es)) := fun a b => a.append ((h _ _).append b)
theorem kbn_mid {K : PySem.W.Frag} {x qual : Str} {params : Arguments} {body : List Stmt} {scope : Scope} {kws : List (Str × V)} {f : Addr} {fd : FuncData} {ps : List Str} (F : FunD K x qual params body scope [] kws f fd) (n : Nat) (ks : List Str) (ms : List (Str × V)) (hk : kws ≠ []) (hms : ∀ q ∈ ms, q ∈ kws)
    (h : ∀ (D : Addr) (doc pm : Value) (an : Option Addr) (cdv ct : Value) (us mv ws : List Value), us.length = n → mv.length = ms.length → ws.length = ks.length →
      KwChain D ((ms.map (·.1)).zip mv) (bindArgs (PySem.W.fnOf x qual params body scope .none (.ref D) doc pm an cdv ct) ⟨us, ks.zip ws⟩) (ps.zip (us ++ (mv ++ ws)))) :
    ∃ g, KBn K fd ps n ks g (fun vs zs => vs ++ (ms.map (·.2) ++ zs)) := by
  obtain ⟨mv, b⟩ := F.kbinds0 n ks ms (fun us mv ws => us ++ (mv ++ ws)) hk hms (fun a b c => a.append (b.append c)) h
  exact ⟨_, b⟩
/-! ### a, b = a list -/
def gTl (n : Nat) (m : TMs) : TM := fun d ρ g => match d with
  | .obj k => match rdL g k with
    | some ds => if ds.length = n then m ds ρ g else none
    | none => none
  | _ => none
section
variable {X : Cx} {pos : Pos} {es : List Expr} {n : TMs}
theorem sg_lst {k : Nat} {c : Nat} (hc : X.calm = true) (h : SGs X es n)
    (hn : (assignEach es X.env).length = c := by rfl) (hst : (assignEach es X.env).findIdx? (·.1) = none := by rfl) : SG X (.Tuple es k pos) (gTl c n) :=
  ⟨PG.imp (pg_lst hc h.pg hn hst) fun v σ H Q ⟨ι, g, ρ, d, r, hρ, hd, h⟩ => by
    cases hd with
    | @obj a m hm =>
      have h : RunG X.mg X.K Q ι H (gTl c n (.obj m) ρ g) := h
      simp only [gTl] at h
      cases e : rdL g m with
      | none => simp only [e] at h; exact h.elim
      | some ds =>
        simp only [e] at h
        obtain ⟨xs, hx, hxs⟩ := r.rdL e hm
        by_cases hl : ds.length = c
        · rw [if_pos hl] at h
          exact ⟨_, xs, rfl, SqL.of hx, by rw [hxs.length]; exact hl, ι, g, ρ, ds, r, hρ, hxs, h⟩
        · rw [if_neg hl] at h; exact h.elim
    | _ => exact h.elim⟩
end
end L3

/-! L3Z: objects compared, for runs over many numbers; runs told by their end. -/
namespace L3
open PySem PySem.Spec PyProof.Rows L2
def kvEqb : List (D × D) → List (D × D) → Bool
  | [], [] => true
  | a :: r, b :: s => D.eqb a.1 b.1 && (D.eqb a.2 b.2 && kvEqb r s)
  | _, _ => false
theorem kvEqb_ok : ∀ {a b : List (D × D)}, kvEqb a b = true → a = b
  | [], [], _ => rfl
  | (a1, a2) :: r, (b1, b2) :: s, h => by
    simp only [kvEqb, Bool.and_eq_true] at h
    rw [(D.eqb_iff _ _).mp h.1, (D.eqb_iff _ _).mp h.2.1, kvEqb_ok h.2.2]
  | [], _ :: _, h => by cases h
  | _ :: _, [], h => by cases h
def fsEqb : List (Str × D) → List (Str × D) → Bool
  | [], [] => true
  | a :: r, b :: s => decide (a.1 = b.1) && (D.eqb a.2 b.2 && fsEqb r s)
  | _, _ => false
theorem fsEqb_ok : ∀ {a b : List (Str × D)}, fsEqb a b = true → a = b
  | [], [], _ => rfl
  | (a1, a2) :: r, (b1, b2) :: s, h => by
    simp only [fsEqb, Bool.and_eq_true, decide_eq_true_eq] at h
    rw [h.1, (D.eqb_iff _ _).mp h.2.1, fsEqb_ok h.2.2]
  | [], _ :: _, h => by cases h
  | _ :: _, [], h => by cases h
def O.eqb : O → O → Bool
  | .lst a, .lst b => D.eqbs a b
  | .dct t a, .dct u b => (t == u) && kvEqb a b
  | .ins c a, .ins d b => decide (c = d) && fsEqb a b
  | _, _ => false
theorem O.eqb_ok : ∀ {a b : O}, O.eqb a b = true → a = b := fun {a b} h => by
  cases a <;> cases b <;> simp only [O.eqb, Bool.and_eq_true, decide_eq_true_eq, beq_iff_eq, Bool.false_eq_true] at h
  · rw [(D.eqbs_iff _ _).mp h]
  · rw [h.1, kvEqb_ok h.2]
  · rw [h.1, fsEqb_ok h.2]
def ghEqb : GH → GH → Bool
  | [], [] => true
  | a :: r, b :: s => O.eqb a b && ghEqb r s
  | _, _ => false
theorem ghEqb_ok : ∀ {a b : GH}, ghEqb a b = true → a = b
  | [], [], _ => rfl
  | _ :: r, _ :: s, h => by
    simp only [ghEqb, Bool.and_eq_true] at h
    rw [O.eqb_ok h.1, ghEqb_ok h.2]
  | [], _ :: _, h => by cases h
  | _ :: _, [], h => by cases h
/-- a call that comes to d and g -/
def isRun (r : R D) (d : D) (g : GH) : Bool := match r with
  | .ok e h => D.eqb e d && ghEqb h g
  | _ => false
theorem isRun_ok {r : R D} {d : D} {g : GH} (h : isRun r d g = true) : r = .ok d g := by
  cases r with
  | ok e k =>
    simp only [isRun, Bool.and_eq_true] at h
    rw [(D.eqb_iff _ _).mp h.1, ghEqb_ok h.2]
  | _ => cases h
theorem of_range {f : Nat → Bool} {n : Nat} (h : (List.range n).all f = true) {i : Nat} (hi : i < n) : f i = true := List.all_eq_true.mp h i (List.mem_range.mpr hi)
/-- a def's body that returns True -/
def isT (r : RS) : Bool := match r with
  | .ok (.rt (.bl true)) _ => true
  | _ => false
theorem isT_ok {r : RS} (h : isT r = true) : ∃ g, r = .ok (.rt (.bl true)) g := by
  unfold isT at h
  split at h
  · exact ⟨_, rfl⟩
  · cases h
/-- the first turn of a loop over a display -/
theorem for_first {im : IM} {t : TM} {b : SM} {ρ ρ1 ρ2 : Rho} {g g1 g2 g3 : GH} {d : D} {ds : List D} {c : Chk} (hi : im ρ g = .ok (d :: ds, c) g1) (hc : chkOk c g1 = true) (ht : t d ρ g1 = some (ρ1, g2)) (hb : b ρ1 g2 = .ok (.nx ρ2) g3) (hc2 : chkOk c g3 = true) :
    sFor im t b ρ g = forN c t b ds ρ2 g3 := by
  unfold sFor
  rw [hi]
  show (if chkOk c g1 = true then forN c t b (d :: ds) ρ g1 else .bad) = _
  rw [if_pos hc]
  simp only [forN, ht, hb, if_pos hc2]
theorem for_more {t : TM} {b : SM} {ρ ρ1 ρ2 : Rho} {g g2 g3 : GH} {d : D} {ds : List D} {c : Chk} (ht : t d ρ g = some (ρ1, g2)) (hb : b ρ1 g2 = .ok (.nx ρ2) g3) (hc2 : chkOk c g3 = true) : forN c t b (d :: ds) ρ g = forN c t b ds ρ2 g3 := by
  simp only [forN, ht, hb, if_pos hc2]
theorem chk_one {g : GH} {k : Nat} {ds : List D} (h : rdL g k = some ds) : chkOk [(k, ds)] g = true := by
  unfold chkOk
  rw [Bool.and_eq_true]
  exact ⟨decide_eq_true h, rfl⟩
/-- o.m(x) as a statement -/
theorem exp_meth {c m : Str} {M : FM} {ρ : Rho} {g g3 : GH} {oi ai k : Nat} {fs : List (Str × D)} {d e : D} (ho : ρ[oi]? = some (some (.obj k))) (hk : g[k]? = some (.ins c fs)) (hf : fGet fs m = none) (ha : ρ[ai]? = some (some d)) (h : M [.obj k, d] g = .ok e g3) :
    sExp (mMeth c m M 2 (mVar oi) (mCons (mVar ai) mNil)) ρ g = .ok (.nx ρ) g3 := by
  have e1 : mMeth c m M 2 (mVar oi) (mCons (mVar ai) mNil) ρ g = .ok e g3 := by
    simp only [mMeth, mVar, ho, R.bind_ok, hk, hf, and_self, if_true, mCons, ha, mNil, List.length_cons, List.length_nil]
    exact h
  unfold sExp
  rw [e1]
  rfl
end L3

/-! L4A: the laws' pool of numbers: what it gives lies below the size asked. -/
namespace L3
open PySem PySem.Spec L2
def tk0 : SM := sIf (mOp2 opGtX (mOp2 opIx (mVar 0) (mC (.int 0))) (mC (.int 0))) (sSeq (sAsg (mOp2 opMod (mOp2 opIx (mVar 0) (mC (.int 0))) (mVar 1)) (gNm 2)) (sSeq (sAsg (mOp2 opFdiv (mOp2 opIx (mVar 0) (mC (.int 0))) (mVar 1)) (gSb (mVar 0) (mC (.int 0)))) (sRet (mVar 2)))) sSkip
def tk1 : SM := sAsg (mOp2 opMod (mOp2 opAdd (mOp2 opMul (mOp2 opIx (mVar 0) (mC (.int 1))) (mC (.int 40692))) (mC (.int 3791))) (mC (.int 2147483399))) (gSb (mVar 0) (mC (.int 1)))
def tk2 : SM := sRet (mOp2 opMod (mOp2 opFdiv (mOp2 opMod (mOp2 opMul (mOp2 opIx (mVar 0) (mC (.int 1))) (mOp2 opIx (mVar 0) (mC (.int 1)))) (mC (.int 2147483629))) (mC (.int 64))) (mVar 1))
def fTake : FM := fnM 3 (sSeq tk0 (sSeq tk1 tk2))
def pl0 : SM := sAsg (mC (.int 0)) (gNm 2)
def pl1 : SM := sIf (mOp2 opLtX (mVar 1) (mOpL opLen (mCons (mVar 0) mNil))) (sAsg (mOpL opAbs (mCons (mOp2 opIx (mVar 0) (mVar 1)) mNil)) (gNm 2)) sSkip
def pl2 : SM := sAsg (mOp2 opMod (mOp2 opMul (mOp2 opAdd (mOp2 opAdd (mOp2 opMod (mVar 2) (mC (.int 2147483587))) (mOp2 opMul (mC (.int 4409)) (mVar 1))) (mC (.int 23))) (mC (.int 48271))) (mC (.int 2147483647))) (gNm 3)
def pl3 : SM := sRet (mLst (mCons (mOp2 opMul (mVar 2) (mOpL opInt (mCons (mOp2 opGeX (mVar 2) (mOp2 opPow (mC (.int 10)) (mC (.int 18)))) mNil))) (mCons (mVar 3) mNil)))
def fPool : FM := fnM 4 (sSeq pl0 (sSeq pl1 (sSeq pl2 pl3)))
/-- a pool: two numbers, none less than 0, the second small -/
def Pool (o : O) : Prop := ∃ a b : Int, o = .lst [.int a, .int b] ∧ 0 ≤ a ∧ 0 ≤ b ∧ b < 2147483647
theorem cMul_small {i j : Int} (h0 : 0 ≤ j) (h : j < 2147483647) : CMul i j := .inr ⟨by omega, by omega⟩
theorem cMul_small' {i j : Int} (h0 : 0 ≤ i) (h : i < 2147483647) : CMul i j := .inl ⟨by omega, by omega⟩
theorem take_run {g : GH} {p : Nat} {o : O} {s : Int} (hp : g[p]? = some o) (ho : Pool o) (h0 : 0 < s) (h1 : s < 1073741824) :
    ∃ x o', 0 ≤ x ∧ x < s ∧ Pool o' ∧ fTake [.obj p, .int s] g = .ok (.int x) (g.set p o') := by
  obtain ⟨a, b, rfl, ha, hb, hb'⟩ := ho
  have hl : p < g.length := (List.getElem?_eq_some_iff.mp hp).1
  have i0 : mOp2 opIx (mVar 0) (mC (.int 0)) [some (.obj p), some (.int s), none] g = .ok (.int a) g := by
    simp [mOp2, mVar, mC, R.bind, opIx, rdL, hp, atI, ixN, lift]
  by_cases hq : 0 < a
  · have e0 : tk0 [some (.obj p), some (.int s), none] g = .ok (.rt (.int (a % s))) (g.set p (.lst [.int (a / s), .int b])) := by
      simp [tk0, sIf, sSeq, sAsg, sRet, mOp2, mVar, mC, R.bind, opIx, rdL, hp, atI, ixN, lift, opGtX, opMod, imod_eq, opFdiv, gNm, gSb, opSet, R.st, RS.nx, hq, h0, h1]
    exact ⟨a % s, _, Int.emod_nonneg _ (by omega), Int.emod_lt_of_pos _ h0, ⟨a / s, b, rfl, Int.ediv_nonneg ha (by omega), hb, hb'⟩, fnM_rt (seq_rt e0)⟩
  · have e0 : tk0 [some (.obj p), some (.int s), none] g = .ok (.nx [some (.obj p), some (.int s), none]) g := by
      simp [tk0, sIf, sSkip, mOp2, mVar, mC, R.bind, opIx, rdL, hp, atI, ixN, lift, opGtX, R.st, hq]
    let c : Int := (b * 40692 + 3791) % 2147483399
    have hc : 0 ≤ c := Int.emod_nonneg _ (by omega)
    have hc' : c < 2147483399 := Int.emod_lt_of_pos _ (by omega)
    have e1 : tk1 [some (.obj p), some (.int s), none] g = .ok (.nx [some (.obj p), some (.int s), none]) (g.set p (.lst [.int a, .int c])) := by
      simp [tk1, sAsg, mOp2, mVar, mC, R.bind, opIx, rdL, hp, atI, ixN, lift, opMod, imod_eq, opMul, opAdd, gSb, opSet, R.st, cMul_small' hb hb', c]
    have hp2 : (g.set p (.lst [.int a, .int c]))[p]? = some (.lst [.int a, .int c]) := by simp [hl]
    have e2 : tk2 [some (.obj p), some (.int s), none] (g.set p (.lst [.int a, .int c])) = .ok (.rt (.int (c * c % 2147483629 / 64 % s))) (g.set p (.lst [.int a, .int c])) := by
      have := cMul_small (i := c) hc (by omega)
      simp [tk2, sRet, mOp2, mVar, mC, R.bind, opIx, rdL, hl, atI, ixN, lift, opMod, imod_eq, opMul, opFdiv, R.st, this, h0]
    exact ⟨_, _, Int.emod_nonneg _ (by omega), Int.emod_lt_of_pos _ h0, ⟨a, c, rfl, ha, hc, by omega⟩, fnM_rt ((seq_nx e0).trans ((seq_nx e1).trans e2))⟩
theorem pool_run (ns : List Int) (k : Nat) (hk : k < 1000000) (g : GH) : ∃ o, Pool o ∧ fPool [.rol (ns.map .int), .int k] g = .ok (.obj g.length) (g ++ [o]) := by
  have main : ∀ c : Int, 0 ≤ c → ∃ o, Pool o ∧ sSeq pl2 pl3 [some (.rol (ns.map .int)), some (.int k), some (.int c), none] g = .ok (.rt (.obj g.length)) (g ++ [o]) := fun c hc => by
    let m : Int := ((c % 2147483587 + 4409 * k + 23) * 48271) % 2147483647
    have e2 : pl2 [some (.rol (ns.map .int)), some (.int k), some (.int c), none] g = .ok (.nx [some (.rol (ns.map .int)), some (.int k), some (.int c), some (.int m)]) g := by
      have q1 : CMul (4409 : Int) k := cMul_small' (by omega) (by omega)
      have q2 : CMul (c % 2147483587 + 4409 * k + 23) 48271 := cMul_small (by omega) (by omega)
      simp [pl2, sAsg, mOp2, mVar, mC, R.bind, lift, opMod, imod_eq, opMul, opAdd, gNm, R.st, q1, q2, m]
    by_cases hb : (10 : Int) ^ 18 ≤ c
    · refine ⟨.lst [.int (c * 1), .int m], ⟨c * 1, m, rfl, by omega, Int.emod_nonneg _ (by omega), Int.emod_lt_of_pos _ (by omega)⟩, (seq_nx e2).trans ?_⟩
      have q1 : CMul c 1 := cMul_small (by omega) (by omega)
      have q3 : ((1000000000000000000 : Int) ≤ c) := by simpa using hb
      simp [pl3, sRet, mLst, mCons, mNil, mOp2, mOpL, mVar, mC, R.bind, lift, opMul, opInt, opGeX, opPow, R.st, q1, q3, sizeLine]
    · refine ⟨.lst [.int (c * 0), .int m], ⟨c * 0, m, rfl, by omega, Int.emod_nonneg _ (by omega), Int.emod_lt_of_pos _ (by omega)⟩, (seq_nx e2).trans ?_⟩
      have q1 : CMul c 0 := cMul_small (by omega) (by omega)
      have q3 : ¬ ((1000000000000000000 : Int) ≤ c) := by simpa using hb
      simp [pl3, sRet, mLst, mCons, mNil, mOp2, mOpL, mVar, mC, R.bind, lift, opMul, opInt, opGeX, opPow, R.st, q1, q3, sizeLine]
  have e0 : pl0 [some (.rol (ns.map .int)), some (.int k), none, none] g = .ok (.nx [some (.rol (ns.map .int)), some (.int k), some (.int 0), none]) g := by
    simp [pl0, sAsg, mC, gNm, R.st]
  by_cases hk : k < ns.length
  · have e1 : pl1 [some (.rol (ns.map .int)), some (.int k), some (.int 0), none] g = .ok (.nx [some (.rol (ns.map .int)), some (.int k), some (.int (if ns[k] < 0 then -ns[k] else ns[k])), none]) g := by
      simp [pl1, sIf, sAsg, mOp2, mOpL, mVar, mC, mCons, mNil, R.bind, lift, opLtX, opLen, opAbs, opIx, atI, ixN, gNm, R.st, hk]
    obtain ⟨o, ho, e⟩ := main (if ns[k] < 0 then -ns[k] else ns[k]) (by split <;> omega)
    exact ⟨o, ho, fnM_rt ((seq_nx e0).trans ((seq_nx e1).trans e))⟩
  · have e1 : pl1 [some (.rol (ns.map .int)), some (.int k), some (.int 0), none] g = .ok (.nx [some (.rol (ns.map .int)), some (.int k), some (.int 0), none]) g := by
      simp [pl1, sIf, sSkip, mOp2, mOpL, mVar, mC, mCons, mNil, R.bind, lift, opLtX, opLen, R.st, hk]
    obtain ⟨o, ho, e⟩ := main 0 (by omega)
    exact ⟨o, ho, fnM_rt ((seq_nx e0).trans ((seq_nx e1).trans e))⟩
/-! the same as calls -/
theorem grow_nil (g : GH) (k : Nat) (acc : List Nat) : grow g k acc [] = acc := by cases k <;> rfl
theorem renDs_ints (f : Nat → Option Nat) : ∀ ns : List Int, renDs f (ns.map .int) = some (ns.map .int)
  | [] => rfl
  | n :: ns => by simp [renDs, renD, renDs_ints f ns]
theorem objsDs_ints : ∀ ns : List Int, objsDs (ns.map .int) = []
  | [] => rfl
  | n :: ns => by simp [objsDs, objsD, objsDs_ints ns]
/-- a call of a text, of a number, that says True -/
theorem callL_str {M : FM} {x : Str} {g g' : GH} (h : M [.str x] [] = .ok (.bl true) g') : callL M 1 [.str x] g = .ok (.bl true) g := by
  unfold callL
  simp [lentOf, objsDs, objsD, grow_nil, renDs, renD, pick, mapO, h, keptOf, back]
theorem callL_int {M : FM} {x : Int} {g g' : GH} (h : M [.int x] [] = .ok (.bl true) g') : callL M 1 [.int x] g = .ok (.bl true) g := by
  unfold callL
  simp [lentOf, objsDs, objsD, grow_nil, renDs, renD, pick, mapO, h, keptOf, back]
theorem callL_pool (ns : List Int) (k : Nat) (hk : k < 1000000) (g : GH) : ∃ o, Pool o ∧ callL fPool 2 [.rol (ns.map .int), .int k] g = .ok (.obj g.length) (g ++ [o]) := by
  obtain ⟨o, ho, e⟩ := pool_run ns k hk []
  refine ⟨o, ho, ?_⟩
  obtain ⟨a, b, rfl, _⟩ := ho
  have hl : lentOf [.rol (ns.map .int), .int k] g = [] := by simp [lentOf, objsDs, objsD, objsDs_ints, grow_nil]
  have hk : keptOf 0 [.lst [.int a, .int b]] (.obj 0) = [0] := by
    show List.filter _ (grow _ (99999 + 1) [] [0]) = _
    simp [grow, grow_nil, objsO, objsDs, objsD]
  unfold callL
  simp only [hl]
  simp [renDs, renD, renDs_ints, pick, mapO]
  rw [e]
  simp [hk, homeIx, ixOf, renO, renDs, renD, mapO, back]
theorem callL_take {g : GH} {p : Nat} {o : O} {s : Int} (hp : g[p]? = some o) (ho : Pool o) (h0 : 0 < s) (h1 : s < 1073741824) :
    ∃ x o', 0 ≤ x ∧ x < s ∧ Pool o' ∧ callL fTake 2 [.obj p, .int s] g = .ok (.int x) (g.set p o') := by
  obtain ⟨x, o', h2, h3, ho', e⟩ := take_run (g := [o]) (p := 0) rfl ho h0 h1
  refine ⟨x, o', h2, h3, ho', ?_⟩
  obtain ⟨a, b, rfl, _⟩ := ho
  obtain ⟨c, d, rfl, _⟩ := ho'
  have hl : lentOf [.obj p, .int s] g = [p] := by
    show grow g (99999 + 1) [] [p] = _
    simp [grow, grow_nil, hp, objsO, objsDs, objsD]
  have hk : keptOf 1 [.lst [.int c, .int d]] (.int x) = [] := by
    simp [keptOf, objsD, objsO, objsDs, grow_nil]
  unfold callL
  simp only [hl]
  simp [renDs, renD, pick, mapO, ixOf, hp, renO]
  rw [e]
  simp [hk, homeIx, ixOf, renO, renDs, renD, mapO, back]
/-! steps without the functions in sight -/
theorem mCallL_1 {M : FM} {a : EM} {ρ : Rho} {g g1 : GH} {d : D} (h : a ρ g = .ok d g1) : mCallL M 1 (mCons a mNil) ρ g = callL M 1 [d] g1 := by
  unfold mCallL mCons mNil
  simp only [h, R.bind_ok]
theorem mCallL_2 {M : FM} {a b : EM} {ρ : Rho} {g g1 g2 : GH} {d e : D} (h : a ρ g = .ok d g1) (h2 : b ρ g1 = .ok e g2) : mCallL M 2 (mCons a (mCons b mNil)) ρ g = callL M 2 [d, e] g2 := by
  unfold mCallL mCons mNil
  simp only [h, h2, R.bind_ok]
theorem mVar_ok {i : Nat} {ρ : Rho} {g : GH} {d : D} (h : ρ[i]? = some (some d)) : mVar i ρ g = .ok d g := by
  unfold mVar; rw [h]
theorem mC_ok {ρ : Rho} {g : GH} {d : D} : mC d ρ g = .ok d g := rfl
theorem sAsg_nm {m : EM} {i : Nat} {ρ : Rho} {g g1 : GH} {d : D} (h : m ρ g = .ok d g1) : sAsg m (gNm i) ρ g = .ok (.nx (ρ.set i (some d))) g1 := by
  unfold sAsg gNm; rw [h]; rfl
theorem mNot_ok {m : EM} {ρ : Rho} {g g1 : GH} {b : Bool} (h : m ρ g = .ok (.bl b) g1) : mNot m ρ g = .ok (.bl (!b)) g1 := by
  unfold mNot; rw [h]; rfl
theorem mOr_false {a b : EM} {ρ : Rho} {g g1 : GH} {r : R D} (ha : a ρ g = .ok (.bl false) g1) (hb : b ρ g1 = r) : mOr a b ρ g = r := by
  unfold mOr; rw [ha]; exact hb
theorem mOr_true {a b : EM} {ρ : Rho} {g g1 : GH} (ha : a ρ g = .ok (.bl true) g1) : mOr a b ρ g = .ok (.bl true) g1 := by
  unfold mOr; rw [ha]; rfl
theorem mAnd_false {a b : EM} {ρ : Rho} {g g1 : GH} (ha : a ρ g = .ok (.bl false) g1) : mAnd a b ρ g = .ok (.bl false) g1 := by
  unfold mAnd; rw [ha]; rfl
theorem sIf_f {c : EM} {a b : SM} {ρ : Rho} {g g1 : GH} (h : c ρ g = .ok (.bl false) g1) : sIf c a b ρ g = b ρ g1 := by
  unfold sIf; rw [h]; rfl
theorem sIf_t {c : EM} {a b : SM} {ρ : Rho} {g g1 : GH} (h : c ρ g = .ok (.bl true) g1) : sIf c a b ρ g = a ρ g1 := by
  unfold sIf; rw [h]; rfl
end L3

/-! L4B: d.update(e), dict(d), tuple(range(..)), list(range(..)). -/
namespace L3
open PySem PySem.Spec PyProof.Rows L2
/-! ### range as an argument -/
def rgD (a b : Int) : List D := (List.range (b - a).toNat).map fun i => D.int (a + (i : Nat))
def rgFit (a b : Int) : Bool := decide (-(2 ^ 62) ≤ a) && decide (a < 2 ^ 62) && decide (-(2 ^ 62) ≤ b) && decide (b < 2 ^ 62) && decide ((b - a).toNat ≤ 16777216)
theorem rgFit_ok {a b : Int} (h : rgFit a b = true) : RgOk a b := by
  simp only [rgFit, Bool.and_eq_true, decide_eq_true_eq] at h
  exact ⟨h.1.1.1.1, h.1.1.1.2, h.1.1.2, h.1.2, h.2⟩
theorem rgD_den {K : PySem.W.Frag} {ι : List Addr} {H : Hp} (a b : Int) : DenAll K ι H (rgV a b) (rgD a b) := by
  have : ∀ l : List Nat, DenAll K ι H (l.map fun i => V.int (a + (i : Nat))) (l.map fun i => D.int (a + (i : Nat))) := fun l => by
    induction l with
    | nil => exact .nil
    | cons x l ih => exact .cons (.int _) ih
  exact this _
def opTupRg (a b : Int) (g : GH) : R D := if rgFit a b = true then .ok (.tup (rgD a b)) g else .bad
def opLstRg (a b : Int) (g : GH) : R D := if rgFit a b = true then .ok (.obj g.length) (g ++ [.lst (rgD a b)]) else .bad
def mRgA (f : Int → Int → GH → R D) (m : EM) : EM := fun ρ g => (m ρ g).bind fun d g1 => match d with
  | .int n => f 0 n g1
  | _ => .bad
def mRgB (f : Int → Int → GH → R D) (m m' : EM) : EM := fun ρ g => (m ρ g).bind fun d g1 => (m' ρ g1).bind fun e g2 => match d, e with
  | .int i, .int j => f i j g2
  | _, _ => .bad
section
variable {X : Cx} {W : WX} {p p2 pos pos2 : Pos} {e e' : Expr} {m m' : EM}
theorem rgA_run {mg : Str → Option Value} {K : PySem.W.Frag} {f : Int → Int → GH → R D} {k : Int → Int → Hp → VK → Prop} (hk : ∀ ι g H a b WX Q, Rel mg K ι g H → RunE mg K WX ι H Q (f a b g) → k a b H Q) : ∀ σ H Q, tF mg K W (mRgA f m) σ H Q → (tRg1 (tF mg K W m)) σ H fun a b H1 => k a b H1 Q := fun σ H Q ⟨ι, g, ρ, r, hρ, h⟩ => by
  refine ⟨ι, g, ρ, r, hρ, RunX.mono (RunX.bind (Dn := fun ι H v d => Den K ι H v d) h) fun v H1 ⟨ι1, g1, d, s1, hd, h1⟩ => ?_⟩
  cases hd with
  | int n => exact ⟨n, rfl, hk ι1 g1 H1 0 n _ Q s1.rel h1⟩
  | _ => exact h1.elim
theorem rgB_run {mg : Str → Option Value} {K : PySem.W.Frag} {f : Int → Int → GH → R D} {k : Int → Int → Hp → VK → Prop} (hk : ∀ ι g H a b WX Q, Rel mg K ι g H → RunE mg K WX ι H Q (f a b g) → k a b H Q) : ∀ σ H Q, tF mg K W (mRgB f m m') σ H Q → (tRg2 (tF mg K W m) (tF mg K W m')) σ H fun a b H1 => k a b H1 Q := fun σ H Q ⟨ι, g, ρ, r, hρ, h⟩ => by
  refine ⟨ι, g, ρ, r, hρ, RunX.mono (RunX.bind (Dn := fun ι H v d => Den K ι H v d) h) fun v H1 ⟨ι1, g1, d, s1, hd, h1⟩ => ?_⟩
  refine ⟨ι1, g1, ρ, s1.rel, hρ.step s1, RunX.mono (RunX.bind (Dn := fun ι H v d => Den K ι H v d) h1) fun v2 H2 ⟨ι2, g2, d2, s2, hd2, h2⟩ => ?_⟩
  cases hd with
  | int i =>
    cases hd2 with
    | int j => exact ⟨i, j, rfl, rfl, hk ι2 g2 H2 i j _ Q s2.rel h2⟩
    | _ => exact h2.elim
  | _ => exact h2.elim
theorem tupRg_k {mg : Str → Option Value} {K : PySem.W.Frag} : ∀ ι g H a b W Q, Rel mg K ι g H → RunE mg K W ι H Q (opTupRg a b g) → RgOk a b ∧ ∀ q, H q = none → Q (.ref q) (upd H q (.tup (rgV a b))) := fun ι g H a b W Q r h => by
  unfold opTupRg at h
  by_cases hf : rgFit a b = true
  · rw [if_pos hf] at h
    refine ⟨rgFit_ok hf, fun q hq => ?_⟩
    have s0 : Step mg K ι H ι g (upd H q (.tup (rgV a b))) := Step.side r hq
    exact h _ _ _ s0 (.tup (TpT.of upd_same) (rgD_den a b))
  · rw [if_neg hf] at h; exact h.elim
theorem lstRg_k {mg : Str → Option Value} {K : PySem.W.Frag} : ∀ ι g H a b W Q, Rel mg K ι g H → RunE mg K W ι H Q (opLstRg a b g) → RgOk a b ∧ ∀ q, H q = none → Q (.ref q) (upd H q (.lst (rgV a b))) := fun ι g H a b W Q r h => by
  unfold opLstRg at h
  by_cases hf : rgFit a b = true
  · rw [if_pos hf] at h
    refine ⟨rgFit_ok hf, fun q hq => ?_⟩
    have s0 : Step mg K ι H (ι ++ [q]) (g ++ [.lst (rgD a b)]) (upd H q (.lst (rgV a b))) := Step.lay r hq ⟨_, upd_same, rgD_den a b⟩
    refine h _ _ _ s0 (.obj ?_)
    rw [← r.len]
    simp
  · rw [if_neg hf] at h; exact h.elim
theorem se_tupRg1 (hc : X.calm = true) (hg : Gl X "tuple") (hm : X.mg "tuple" = none) (hg2 : Gl X "range") (hm2 : X.mg "range" = none) (h : SE X W e m) (n1 : starEach [e] X.env = (false, eval e X.env) :: starEach [] X.env := by rfl)
    (n2 : starEach [.Call (.Name "range" p2) [e] [] pos2] X.env = (false, eval (.Call (.Name "range" p2) [e] [] pos2) X.env) :: starEach [] X.env := by rfl) :
    SE X W (.Call (.Name "tuple" p) [.Call (.Name "range" p2) [e] [] pos2] [] pos) (mRgA opTupRg m) := ⟨PE.imp (pe_tupRg hc hg hm (prg_1 hg2 hm2 h.pe n1) n2) (rgA_run tupRg_k)⟩
theorem se_tupRg2 (hc : X.calm = true) (hg : Gl X "tuple") (hm : X.mg "tuple" = none) (hg2 : Gl X "range") (hm2 : X.mg "range" = none) (h : SE X W e m) (h' : SE X W e' m') (n1 : starEach [e, e'] X.env = (false, eval e X.env) :: starEach [e'] X.env := by rfl) (n3 : starEach [e'] X.env = (false, eval e' X.env) :: starEach [] X.env := by rfl) (n4 : (backTo pos2 (starEach [e'] X.env)).any (·.1) = false := by rfl)
    (n2 : starEach [.Call (.Name "range" p2) [e, e'] [] pos2] X.env = (false, eval (.Call (.Name "range" p2) [e, e'] [] pos2) X.env) :: starEach [] X.env := by rfl) :
    SE X W (.Call (.Name "tuple" p) [.Call (.Name "range" p2) [e, e'] [] pos2] [] pos) (mRgB opTupRg m m') := ⟨PE.imp (pe_tupRg hc hg hm (prg_2 hg2 hm2 h.pe h'.pe n1 n3 n4) n2) (rgB_run tupRg_k)⟩
theorem se_lstRg1 (hc : X.calm = true) (hg : Gl X "list") (hm : X.mg "list" = none) (hg2 : Gl X "range") (hm2 : X.mg "range" = none) (h : SE X W e m) (n1 : starEach [e] X.env = (false, eval e X.env) :: starEach [] X.env := by rfl)
    (n2 : starEach [.Call (.Name "range" p2) [e] [] pos2] X.env = (false, eval (.Call (.Name "range" p2) [e] [] pos2) X.env) :: starEach [] X.env := by rfl) :
    SE X W (.Call (.Name "list" p) [.Call (.Name "range" p2) [e] [] pos2] [] pos) (mRgA opLstRg m) := ⟨PE.imp (pe_listRg hc hg hm (prg_1 hg2 hm2 h.pe n1) n2) (rgA_run lstRg_k)⟩
theorem se_lstRg2 (hc : X.calm = true) (hg : Gl X "list") (hm : X.mg "list" = none) (hg2 : Gl X "range") (hm2 : X.mg "range" = none) (h : SE X W e m) (h' : SE X W e' m') (n1 : starEach [e, e'] X.env = (false, eval e X.env) :: starEach [e'] X.env := by rfl) (n3 : starEach [e'] X.env = (false, eval e' X.env) :: starEach [] X.env := by rfl) (n4 : (backTo pos2 (starEach [e'] X.env)).any (·.1) = false := by rfl)
    (n2 : starEach [.Call (.Name "range" p2) [e, e'] [] pos2] X.env = (false, eval (.Call (.Name "range" p2) [e, e'] [] pos2) X.env) :: starEach [] X.env := by rfl) :
    SE X W (.Call (.Name "list" p) [.Call (.Name "range" p2) [e, e'] [] pos2] [] pos) (mRgB opLstRg m m') := ⟨PE.imp (pe_listRg hc hg hm (prg_2 hg2 hm2 h.pe h'.pe n1 n3 n4) n2) (rgB_run lstRg_k)⟩
end

/-! ### dicts with tuple keys: update, dict(..) -/
def mergeT (kvs more : List (List Key × V)) : List (List Key × V) := more.foldl (fun acc kv => putK acc kv.1 kv.2) kvs
def dMerge (kvs more : List (D × D)) : List (D × D) := more.foldl (fun acc kv => dPut acc kv.1 kv.2) kvs
theorem length_mergeT : ∀ (more kvs : List (List Key × V)), (mergeT kvs more).length ≤ kvs.length + more.length
  | [], kvs => Nat.le_refl _
  | q :: more, kvs => by
    have h1 := length_mergeT more (putK kvs q.1 q.2)
    have h2 := length_putK kvs q.1 q.2
    show (mergeT (putK kvs q.1 q.2) more).length ≤ _
    simp only [List.length_cons]
    omega
theorem KT.merge {H : Hp} : ∀ {more : List (List Key × V)} {ys : List (List Key × Addr × Value)} {kvs : List (List Key × V)} {xs : List (List Key × Addr × Value)}, KT H more ys → KT H kvs xs → KT H (mergeT kvs more) (storedAllH xs ys)
  | _, _, _, _, .nil, h => h
  | _, _, _, _, .cons (a := a) (b := b) r t, h => by
    obtain ⟨r1, r2, r3⟩ := r
    have h2 := KT.put h a.1 (b := b.2.1) (y := a.2) (u := b.2.2) r2 r3
    have := KT.merge t h2
    show KT H (mergeT (putK _ a.1 a.2) _) (storedAllH (storedH _ b.1 b.2.1 b.2.2) _)
    rw [← r1]
    exact this
theorem paired_merge {K : PySem.W.Frag} {ι : List Addr} {H : Hp} : ∀ {more : List (List Key × V)} {es : List (D × D)} {kvs : List (List Key × V)} {ds : List (D × D)}, Paired (fun (p : List Key × V) (q : D × D) => q.1 = .tup (p.1.map kD) ∧ Den K ι H p.2 q.2) more es →
    Paired (fun (p : List Key × V) (q : D × D) => q.1 = .tup (p.1.map kD) ∧ Den K ι H p.2 q.2) kvs ds → Paired (fun (p : List Key × V) (q : D × D) => q.1 = .tup (p.1.map kD) ∧ Den K ι H p.2 q.2) (mergeT kvs more) (dMerge ds es)
  | _, _, _, _, .nil, h => h
  | _, _, _, _, .cons (a := a) (b := b) r t, h => by
    have h2 := paired_put (fun ks : List Key => D.tup (ks.map kD)) kT_inj h a.1 r.2
    have := paired_merge t h2
    show Paired _ (mergeT (putK _ a.1 a.2) _) (dMerge (dPut _ b.1 b.2) _)
    rw [r.1]
    exact this
/-- the hash of a tuple of whole numbers -/
def tIntsOf : List D → Option (List Int)
  | [] => some []
  | .int i :: r => (tIntsOf r).map fun l => i :: l
  | _ :: _ => none
def tHash : D → Option Int
  | .tup ds => (tIntsOf ds).map fun l => reduceHash (Builtin.Tuple.tupleHashOf (l.map hashInt))
  | _ => none
def hashesOf : List (D × D) → Option (List Int)
  | [] => some []
  | p :: r => match tHash p.1, hashesOf r with
    | some a, some l => some (a :: l)
    | _, _ => none
def apartB (kvs : List (D × D)) : Bool := match hashesOf kvs with
  | some l => decide l.Nodup
  | none => false
theorem tIntsOf_map {w : World} : ∀ {ks : List Key} {l : List Int}, tIntsOf (ks.map kD) = some l → ks.map (keyH w) = l.map hashInt
  | [], l, h => by cases h; rfl
  | .inl i :: ks, l, h => by
    cases e : tIntsOf (ks.map kD) with
    | none => simp [tIntsOf, kD, e] at h
    | some l' =>
      simp [tIntsOf, kD, e] at h
      subst h
      simp [keyH, tIntsOf_map (w := w) e]
  | .inr x :: ks, l, h => by simp [tIntsOf, kD] at h
theorem hashes_of {P : Program} {w : World} {K : PySem.W.Frag} {ι : List Addr} {H : Hp} : ∀ {ps : List (List Key × V)} {kvs : List (D × D)} {l : List Int}, Paired (fun (p : List Key × V) (q : D × D) => q.1 = .tup (p.1.map kD) ∧ Den K ι H p.2 q.2) ps kvs → hashesOf kvs = some l →
    ps.map (fun p => (tupleKind (mixKind P w)).hash p.1) = l
  | _, _, _, .nil, h => by cases h; rfl
  | _, _, _, .cons (a := a) (b := b) r t, h => by
    unfold hashesOf at h
    rw [r.1] at h
    cases e1 : tIntsOf (a.1.map kD) with
    | none => simp [tHash, e1] at h
    | some l1 =>
      simp only [tHash, e1, Option.map_some] at h
      split at h
      · next x y ex ey =>
        cases ex
        cases h
        rw [List.map_cons, hashes_of t ey]
        show tupleKeyHash (mixKind P w) a.1 :: _ = _
        unfold tupleKeyHash
        rw [show a.1.map (mixKind P w).hash = a.1.map (keyH w) from rfl, tIntsOf_map e1]
      · cases h
theorem kt_hashes {P : Program} {w : World} {H : Hp} {ps : List (List Key × V)} {xs : List (List Key × Addr × Value)} (r : KT H ps xs) : xs.map (fun x => (tupleKind (mixKind P w)).hash x.1) = ps.map (fun p => (tupleKind (mixKind P w)).hash p.1) := by
  induction r with
  | nil => rfl
  | cons a t ih => rw [List.map_cons, List.map_cons, ih, a.1]
section
variable {X : Cx} {pins : List (Addr × Obj)} {σ : L2.St} {H : Hp} {s : Shared} {a b : Addr} {kvs more : List (List Key × V)} {A : Around} {E : Value → Shared → Prop}
theorem d_update {Q : Value → Shared → Prop} (hu : A.units + 1 < cLine) (I : Inv X pins σ H s) (e : H a = some (.dT kvs)) (e2 : Rd H b (.dT more)) (hab : a ≠ b) (hsz : kvs.length + more.length ≤ sizeLine)
    (hap : kvs ≠ [] ∨ (more.map fun p => (tupleKind (mixKind X.prog X.w)).hash p.1).Nodup) (h : ∀ s', Inv X pins σ (upd H a (.dT (mergeT kvs more))) s' → Q .none s') :
    wpAny (model X.prog X.w) A (call (.builtin "dict.update") [.ref a, .ref b]) Q E s := by
  obtain ⟨z, hd, xs, rel, dd⟩ := dt_of I.hok e
  obtain ⟨z2, hd2, ys, rel2, dd2⟩ := dt_rd I.hok e2
  have l1 := Paired.length rel
  have l2 := Paired.length rel2
  refine call_update_dictH (tupleKind_room_in1 hu) hab hd2 dd dd2 ?_ (by rw [← l1, ← l2]; exact hsz) fun h' dd' _ hs => h _ ?_
  · rcases hap with q | q
    · refine .inl fun z => q ?_
      have := l1
      rw [z] at this
      exact List.length_eq_zero_iff.mp (by simpa using this)
    · exact .inr ⟨keyed_apart tupleKind_stays dd2, by rw [kt_hashes rel2]; exact q⟩
  · obtain ⟨q, es, ep, hq, h2, h3, h4, _, h5⟩ := dd'
    have hl : (mergeT kvs more).length ≤ sizeLine := Nat.le_trans (length_mergeT more kvs) hsz
    refine d_write I (by rw [e]; exact True.intro) hs ⟨q, hq⟩ ⟨hl, hd, _, (KT.merge rel2 rel).keeps fun c ys ec => ?_, q, es, ep, hq, h2, h3, h4, h5⟩
    rw [upd_ne (ne_of ec e (fun z => nomatch z))]
    exact ec
theorem d_copyT {Q : Value → Shared → Prop} (hu : A.units + 2 < cLine) (I : Inv X pins σ H s) (e2 : Rd H b (.dT more)) (hap : (more.map fun p => (tupleKind (mixKind X.prog X.w)).hash p.1).Nodup)
    (h : ∀ p s', H p = none → Inv X pins σ (upd H p (.dT (mergeT [] more))) s' → Q (.ref p) s') : wpAny (model X.prog X.w) A (call (.type "dict") [.ref b]) Q E s := by
  obtain ⟨z2, hd2, ys, rel2, dd2⟩ := dt_rd I.hok e2
  have l2 := Paired.length rel2
  have hb : b < s.heap.objs.size := by
    obtain ⟨o, _, _, ho, _⟩ := id dd2
    exact Heap.lt_size ho
  refine callType_codes (Q₁ := fun obj s₁ => obj = .ref s.heap.objs.size ∧ s₁ = { s with heap := s.heap.push { cls := .type "dict", data := .dict #[] } }) PySem.F.kt_called_dict (PySem.F.kt_typeCall_dict_1 _) PySem.F.entry_dict_init (kt_code_dict_new _ ⟨rfl, rfl⟩) ?_
  rintro obj s₁ ⟨rfl, rfl⟩
  have k0 : ∀ b o, s.heap.get? b = some o → (s.heap.push { cls := .type "dict", data := .dict #[] }).get? b = some o := fun b o e => Heap.get?_push_of_some _ e
  have hnew : (s.heap.push { cls := .type "dict", data := .dict #[] }).DictOfH (tupleKind (mixKind X.prog X.w)) s.heap.objs.size [] := by
    exact ⟨_, #[], 0, Heap.get?_push_size _ rfl, ⟨rfl, rfl, rfl⟩, rfl, rfl, (fun x hx => nomatch hx), List.nodup_nil⟩
  have dd3 : (s.heap.push { cls := .type "dict", data := .dict #[] }).DictOfH (tupleKind (mixKind X.prog X.w)) b ys := by
    obtain ⟨o, es, ep, ho, h2, h3, h4, h5, h6⟩ := dd2
    exact ⟨o, es, ep, k0 _ _ ho, h2, h3, h4, fun x hx => tupleKind_stays.stays (fun c o _ _ e _ => k0 _ _ e) (h5 x hx), h6⟩
  have ht : (show Shared from { s with heap := s.heap.push { cls := .type "dict", data := .dict #[] } }).TypeIs (.ref s.heap.objs.size) "dict" := ⟨_, Heap.get?_push_size _ rfl, rfl⟩
  refine ⟨ht, PySem.F.args_dict_init_2 _ _, ?_⟩
  unfold Builtin.«dict.__init__»
  refine wpAny_bind ?_
  unfold Builtin.Dict.selfAndRest
  refine wpAny_bind (wpAny_notOrdered_dict ht ?_)
  show wpAny _ _ (pure (s.heap.objs.size, [Value.ref b])) _ _ _
  refine wpAny_pure ?_
  show wpAny _ _ (Builtin.Dict.updateFrom "dict.__init__" s.heap.objs.size (.ref b) [] .none) _ _ _
  refine updateFrom_dictH (knd := tupleKind (mixKind X.prog X.w)) .none (tupleKind_room_in1 (by show A.units + 1 + 1 < cLine; omega)) (Nat.ne_of_gt hb) hd2 hnew dd3 (.inr ⟨keyed_apart tupleKind_stays dd3, by rw [kt_hashes rel2]; exact hap⟩) (by rw [List.length_nil, Nat.zero_add, ← l2]; exact z2) fun h' dd' _ hs => ?_
  refine ⟨rfl, h _ _ (I.hok.fresh (Nat.le_refl _)) (I.laid (a := s.heap.objs.size) (o := .dT (mergeT [] more)) (t' := s.toks) (fun c q hq => ?_) (Nat.le_refl _) ?_)⟩
  · exact (hs.2 c (Nat.ne_of_lt (Heap.lt_size hq))).trans (k0 _ _ hq)
  · obtain ⟨q, es, ep, hq, h2, h3, h4, _, h5⟩ := dd'
    have hl : (mergeT [] more).length ≤ sizeLine := Nat.le_trans (length_mergeT more []) (by rw [List.length_nil, Nat.zero_add]; exact z2)
    refine ⟨hl, beq_eq_false_iff_ne.mpr (Ne.symm (Nat.ne_of_lt I.big)), _, (KT.merge rel2 .nil).keeps fun c ys ec => ?_, q, es, ep, hq, h2, h3, h4, h5⟩
    rw [upd_ne (ne_of_none ec (I.hok.fresh (Nat.le_refl _)))]
    exact ec
end

/-- d.update(e) -/
def opUpdate : OpM := fun o ds g => match o, ds with
  | .obj n, [.obj m] => match g[n]?, rdD g m with
    | some (.dct true kvs), some (true, more) => if n ≠ m ∧ kvs.length + more.length ≤ sizeLine ∧ (kvs.isEmpty = false ∨ apartB more = true) then some (.non, g.set n (.dct true (dMerge kvs more))) else none
    | _, _ => none
  | _, _ => none
/-- dict(d) -/
def opDictD : OpL := fun ds g => match ds with
  | [.obj m] => match rdD g m with
    | some (true, more) => if apartB more = true then some (.obj g.length, g ++ [.dct true (dMerge [] more)]) else none
    | some (false, more) => some (.obj g.length, g ++ [.dct false more])
    | none => none
  | _ => none
theorem nodup_of {P : Program} {w : World} {K : PySem.W.Frag} {ι : List Addr} {H : Hp} {ps : List (List Key × V)} {kvs : List (D × D)} (r : Paired (fun (p : List Key × V) (q : D × D) => q.1 = .tup (p.1.map kD) ∧ Den K ι H p.2 q.2) ps kvs) (h : apartB kvs = true) :
    (ps.map fun p => (tupleKind (mixKind P w)).hash p.1).Nodup := by
  unfold apartB at h
  cases e : hashesOf kvs with
  | none => rw [e] at h; cases h
  | some l =>
    rw [e] at h
    rw [hashes_of r e]
    exact of_decide_eq_true h
section
variable {X : Cx}
theorem mr_update (hu : X.A.units + 1 < cLine) : MtR X "dict.update" (rFM X.mg X.K opUpdate) := by
  intro pins s σ H x xs v us Q I rx rxs ⟨ι, g, o, ds, r, ho, hds, h⟩
  cases ho with
  | @obj a n hn =>
    cases hds with
    | nil => exact h.elim
    | @cons y vs d ds hd hvs =>
      cases hvs with
      | cons _ _ => cases hd <;> exact h.elim
      | nil =>
        cases hd with
        | @obj b m hm =>
          cases rx
          obtain ⟨u, rfl, ru⟩ := rxs.one
          cases ru
          unfold opUpdate at h
          simp only at h
          cases e1 : g[n]? with
          | none => simp only [e1] at h; exact h.elim
          | some ob =>
            cases ob with
            | dct t kvs =>
              cases t with
              | false => simp only [e1] at h; exact h.elim
              | true =>
                cases e2 : rdD g m with
                | none => simp only [e1, e2] at h; exact h.elim
                | some q =>
                  obtain ⟨t2, more⟩ := q
                  cases t2 with
                  | false => simp only [e1, e2] at h; exact h.elim
                  | true =>
                    simp only [e1, e2] at h
                    by_cases hc : n ≠ m ∧ kvs.length + more.length ≤ sizeLine ∧ (kvs.isEmpty = false ∨ apartB more = true)
                    · rw [if_pos hc] at h
                      obtain ⟨c1, c2, c3⟩ := hc
                      obtain ⟨u1, hu1, dc⟩ := r.at_ n _ a e1 hn
                      obtain ⟨u2, hu2, dc2⟩ := r.rdD e2 hm
                      rcases dc with ⟨z, _⟩ | ⟨_, ps, rfl, pr⟩
                      · cases z
                      rcases dc2 with ⟨z, _⟩ | ⟨_, ps2, rfl, pr2⟩
                      · cases z
                      have hab : a ≠ b := fun z => by
                        subst z
                        obtain ⟨m1, e3⟩ := List.getElem?_eq_some_iff.mp hn
                        obtain ⟨m2, e4⟩ := List.getElem?_eq_some_iff.mp hm
                        exact c1 (nodup_at r.nd m1 m2 (by rw [e3, e4]))
                      refine d_update hu I hu1 hu2 hab (by rw [paired_len pr, paired_len pr2]; exact c2) ?_ fun s' I' => ?_
                      · rcases c3 with q | q
                        · refine .inl fun z => ?_
                          subst z
                          cases pr
                          cases q
                        · exact .inr (nodup_of pr2 q)
                      · have s0 : Step X.mg X.K ι H ι (g.set n (.dct true (dMerge kvs more))) (upd H a (.dT (mergeT ps ps2))) := Step.write r hn (fun H' hT hP hH => ⟨_, hH, .inr ⟨rfl, _, rfl, paired_merge (paired_imp (fun p q h => ⟨h.1, Den.mono (fun _ _ h => h) hT hP _ _ h.2⟩) pr2) (paired_imp (fun p q h => ⟨h.1, Den.mono (fun _ _ h => h) hT hP _ _ h.2⟩) pr)⟩⟩) fun ob x z => by rw [hu1] at z; cases z
                        exact ⟨.non, _, I', rfl, h _ _ _ s0 .non⟩
                    · rw [if_neg hc] at h; exact h.elim
            | _ => simp only [e1] at h; exact h.elim
        | _ => exact h.elim
  | _ => cases hds with
    | nil => exact h.elim
    | cons _ _ => exact h.elim
theorem cr_dictD (hu : X.A.units + 2 < cLine) : CallR X (.type "dict") (rFL X.mg X.K opDictD) := by
  intro pins s σ H xs us Q I rxs ⟨ι, g, ds, r, hds, h⟩
  cases hds with
  | nil => exact h.elim
  | @cons y vs d ds hd hvs =>
    cases hvs with
    | cons _ _ => cases hd <;> exact h.elim
    | nil =>
      cases hd with
      | @obj b m hm =>
        obtain ⟨u, rfl, ru⟩ := rxs.one
        cases ru
        unfold opDictD at h
        simp only at h
        cases e2 : rdD g m with
        | none => simp only [e2] at h; exact h.elim
        | some q =>
          obtain ⟨t2, more⟩ := q
          obtain ⟨u2, hu2, dc2⟩ := r.rdD e2 hm
          cases t2 with
          | false =>
            simp only [e2] at h
            rcases dc2 with ⟨_, ps2, rfl, pr2⟩ | ⟨z, _⟩
            · refine d_copyOf I hu2 fun p s' hp I' => ?_
              have s0 : Step X.mg X.K ι H (ι ++ [p]) (g ++ [.dct false more]) (upd H p (.dK ps2)) := Step.lay r hp ?_
              · refine ⟨.ref p, _, I', rfl, h _ _ _ s0 (.obj ?_)⟩
                rw [← r.len]
                simp
              · have sd : Step X.mg X.K ι H ι g (upd H p (.dK ps2)) := Step.side r hp
                exact ⟨_, upd_same, .inl ⟨rfl, _, rfl, paired_imp (fun p q h => ⟨h.1, Den.mono ix_app sd.tup sd.rol _ _ h.2⟩) pr2⟩⟩
            · cases z
          | true =>
            simp only [e2] at h
            rcases dc2 with ⟨z, _⟩ | ⟨_, ps2, rfl, pr2⟩
            · cases z
            · by_cases hc : apartB more = true
              · rw [if_pos hc] at h
                refine d_copyT hu I hu2 (nodup_of pr2 hc) fun p s' hp I' => ?_
                have s0 : Step X.mg X.K ι H (ι ++ [p]) (g ++ [.dct true (dMerge [] more)]) (upd H p (.dT (mergeT [] ps2))) := Step.lay r hp ?_
                · refine ⟨.ref p, _, I', rfl, h _ _ _ s0 (.obj ?_)⟩
                  rw [← r.len]
                  simp
                · have sd : Step X.mg X.K ι H ι g (upd H p (.dT (mergeT [] ps2))) := Step.side r hp
                  exact ⟨_, upd_same, .inr ⟨rfl, _, rfl, paired_merge (paired_imp (fun p q h => ⟨h.1, Den.mono ix_app sd.tup sd.rol _ _ h.2⟩) pr2) .nil⟩⟩
              · rw [if_neg hc] at h; exact h.elim
      | _ => exact h.elim
end
end L3

/-! L4C: o.f as a target among others. -/
namespace L3
open PySem PySem.Spec PyProof.Rows L2
theorem hu2 {A : Around} {k : Nat} (hr : Room k A) : A.units + 2 < cLine := by have := hr.un; omega
def gFldT (K : PySem.W.Frag) (ta : TE) (f : Str) : TG := fun v σ H Q => ta σ H fun x H1 => ∃ a C dx fs, x = .ref a ∧ H1 a = some (.ins C dx fs) ∧ Cls K C ∧ NoAttr K C f ∧ fs.length < 1000 ∧ Q σ (upd H1 a (.ins C dx (putF f v fs)))
theorem pg_fld {X : Cx} {o : Expr} {f : Str} {pos : Pos} {ta : TE} (ho : PE X o ta) : PG X (.Attribute o f pos) (gFldT X.K ta f) := by
  refine ⟨fun pins s σ H v u Q I r h => ?_⟩
  rw [assign_Attribute]
  refine wpAny_bind (wpAny_holding (thn (ho.run pins s σ H _ I h) fun ov s1 ⟨x, H1, I1, r1, a, C, dx, fs, ex, ea, c, n, l, q2⟩ => ?_))
  subst ex
  obtain rfl : ov = Value.ref a := r1
  refine wpAny_bind (wpAny_standAt (wpAny_bind (wpAny_holding (setattr_ok I1 ea c n l r fun s3 I3 => ?_))))
  exact wpAny_release ⟨σ, _, I3, q2⟩
/-- o.f as a target -/
def gFd (cs : List Str) (f : Str) (mo : EM) : TM := fun d ρ g => match mo ρ g with
  | .ok o g1 => (opSetF cs f o d g1).map fun g2 => (ρ, g2)
  | _ => none
section
variable {X : Cx} {o : Expr} {pos : Pos} {mo : EM} {cs : List Str} {f : Str}
theorem sg_fld (hc : FldOk X.mg X.K cs f) (ho : SE X (fun _ _ _ _ => False) o mo) : SG X (.Attribute o f pos) (gFd cs f mo) := ⟨PG.imp (pg_fld ho.pe) fun v σ H Q ⟨ι, g, ρ, d, r, hρ, hd, h⟩ => by
  refine ⟨ι, g, ρ, r, hρ, ?_⟩
  unfold gFd at h
  cases e1 : mo ρ g with
  | ok x g1 =>
    simp only [e1] at h
    intro ι1 H1 u s1 hu1
    cases hu1 with
    | @obj a n hn =>
      cases e2 : g1[n]? with
      | none => simp only [opSetF, e2] at h; exact h.elim
      | some ob =>
        cases ob with
        | ins c fs =>
          simp only [opSetF, e2] at h
          by_cases hm : c ∈ cs ∧ fs.length < 1000
          · rw [if_pos hm] at h
            obtain ⟨C, dx, ps, hH, hC, hf⟩ := s1.rel.at_ n _ a e2 hn
            obtain ⟨k1, k2⟩ := hc c hm.1 C hC
            refine ⟨a, C, dx, ps, rfl, hH, k1, k2, by rw [paired_len hf]; exact hm.2, ?_⟩
            have s3 : Step X.mg X.K ι1 H1 ι1 (g1.set n (.ins c (fPut f d fs))) (upd H1 a (.ins C dx (putF f v ps))) := Step.write s1.rel hn (fun H' hT hP hH' => by
              exact ⟨C, dx, _, hH', hC, fld_put (Den.mono (fun _ _ h => h) hT hP _ _ (s1.den hd)) (hf.mono (fun _ _ h => h) hT hP)⟩) fun ob x z => by rw [hH] at z; cases z
            exact h ι1 _ σ (s1.trans s3) ((hρ.step s1).step s3)
          · rw [if_neg hm] at h; exact h.elim
        | _ => simp only [opSetF, e2] at h; exact h.elim
    | _ => exact h.elim
  | ex c fs g1 => simp only [e1] at h; exact h.elim
  | bad => simp only [e1] at h; exact h.elim⟩
end

/-! ### a fresh dict that is walked: locked for good -/
def mFrz (m : EM) : EM := fun ρ g => (m ρ g).bind fun d g1 => match d with
  | .obj n => match g1[n]? with
    | some (.dct t kvs) => .ok (.obj n) (g1.set n (.frz (.dct t kvs)))
    | _ => .bad
  | _ => .bad
def tFrz (t : TE) : TE := fun σ H Q => t σ H fun v H1 => ∃ a u, v = .ref a ∧ H1 a = some u ∧ Mut (some u) ∧ ∀ od, Q v (upd H1 a (.frz od u))
theorem pe_frz {X : Cx} {e : Expr} {t : TE} (h : PE X e t) : PE X e (tFrz t) := ⟨fun pins s σ H Q I q =>
  thn (h.run pins s σ H _ I q) fun v s1 ⟨x, H1, I1, r1, a, u, ex, hu, mu, q1⟩ => by
    obtain ⟨od, I2⟩ := I1.lock hu mu
    exact ⟨x, _, I2, r1, q1 od⟩⟩
theorem se_frz {X : Cx} {W : WX} {e : Expr} {m : EM} (h : SE X W e m) : SE X W e (mFrz m) := ⟨PE.imp (pe_frz h.pe) fun σ H Q ⟨ι, g, ρ, r, hρ, q⟩ => by
  refine ⟨ι, g, ρ, r, hρ, RunX.mono (RunX.bind (Dn := fun ι H v d => Den X.K ι H v d) q) fun v H1 ⟨ι1, g1, d, s1, hd, h1⟩ => ?_⟩
  cases hd with
  | @obj a n hn =>
    cases e1 : g1[n]? with
    | none => simp only [e1] at h1; exact h1.elim
    | some o =>
      cases o with
      | dct t kvs =>
        simp only [e1] at h1
        obtain ⟨u, hu, dc⟩ := s1.rel.at_ n _ a e1 hn
        refine ⟨a, u, rfl, hu, ?_, fun od => ?_⟩
        · rcases dc with ⟨_, ps, rfl, _⟩ | ⟨_, ps, rfl, _⟩ <;> trivial
        · exact h1 _ _ _ (lock_step s1.rel hn hu dc od) (.obj hn)
      | _ => simp only [e1] at h1; exact h1.elim
  | _ => exact h1.elim⟩

/-! ### methods, told of the arguments' own objects alone -/
def mMethL (c m : Str) (M : FM) (n : Nat) (o : EM) (a : AM) : EM := fun ρ g => (o ρ g).bind fun d g1 => match d with
  | .obj k => match g1[k]? with
    | some (.ins c' fs) => if c' = c ∧ fGet fs m = none then (a ρ g1).bind fun ds g2 => callL M n (d :: ds) g2 else .bad
    | _ => .bad
  | _ => .bad
section
variable {X : Cx} {W : WX} {k : Nat} {f C : Addr} {fd : FuncData} {ps : List Str} {n : Nat} {M : FM} {x : Str} {p pos apos : Pos} {e o : Expr} {es : List Expr} {ma : AM} {mo : EM}
theorem se_methL {c m : Str} {pl : Sem Bool} (he : SE X W o mo) (hC : X.mg c = some (.ref C)) (cl : Cls X.K C) (hm : Meth X.K C m f) (F : FnOk X.prog X.w X.K X.mg X.base (L2.CX X.prog X.w) k f fd ps (spF X.mg X.K n M)) (hr : Room k X.A) (hb : Binds X.K fd ps []) (tk : Takes X W) (ha : SA X W (e :: es) ma)
    (hst : starEach (e :: es) X.env = (false, eval e X.env) :: starEach es X.env := by rfl) (hpl : (backTo pos (starEach es X.env)).any (·.1) = false := by rfl)
    (ht : eval (.Call (.Attribute o m apos) (e :: es) [] pos) X.env = (do
      let ov ← eval o X.env
      standAt apos.atName
      let (f, first) ← holding [ov] (getMethod ov m pl)
      callWith pos f first (backTo pos (starEach (e :: es) X.env)) (backToKw pos (keywordEach [] X.env))) := by rfl) :
    SE X W (.Call (.Attribute o m apos) (e :: es) [] pos) (mMethL c m M n mo ma) := ⟨⟨fun pins s σ H Q I ⟨ι, g, ρ, r, hρ, h⟩ => by
  refine PySem.W.methodCall_KW (pl := pl) (thn (he.pe.run pins s σ H _ I ⟨ι, g, ρ, r, hρ, RunX.bind (Dn := fun ι H v d => Den X.K ι H v d) h⟩) fun u s1 ⟨x, H1, I1, rx, ι1, g1, d, s1', hd, h1⟩ => ?_) ht
  cases hd with
  | @obj a j hj =>
    cases rx
    cases e1 : g1[j]? with
    | none => simp only [e1] at h1; exact h1.elim
    | some ob =>
      cases ob with
      | ins c' fs =>
        simp only [e1] at h1
        by_cases hc : c' = c ∧ fGet fs m = none
        · rw [if_pos hc] at h1
          obtain ⟨C', dx, qs, hH, hC', hf⟩ := s1'.rel.at_ j _ a e1 hj
          rw [hc.1, hC] at hC'
          cases hC'
          refine getmeth_ok I1 hH cl hm (fld_none hf hc.2) ?_
          have q := RunX.bind (Dn := fun ι H v d => DenAll X.K ι H v d) h1
          refine PySem.W.callWith_K (first := [.ref a]) (h₀ := X.base) I.ok.mod.kin hm.kp (thn (ha.pa.run pos pins s1 σ H1 _ I1 ⟨ι1, g1, ρ, s1'.rel, hρ.step s1', q⟩) fun us s2 ⟨vs, H2, I2, rv, ι2, g2, ds, s2', hds, h2⟩ => ⟨I2.kIn, ?_⟩) hst hpl
          refine run_fnSD (us := .ref a :: us) (vs := .ref a :: vs) (dvs := []) (ds := []) (E := WE W) F hr hb .nil (passAt tk σ) I2 (.cons rfl rv) ?_
          rw [List.append_nil]
          exact callL_run (E := fun _ => WE W σ) s2'.rel (.cons (s2'.den (.obj hj)) hds) h2
        · rw [if_neg hc] at h1; exact h1.elim
      | _ => simp only [e1] at h1; exact h1.elim
  | _ => exact h1.elim⟩⟩
theorem se_methL0 {c m : Str} {pl : Sem Bool} (he : SE X W o mo) (hC : X.mg c = some (.ref C)) (cl : Cls X.K C) (hm : Meth X.K C m f) (F : FnOk X.prog X.w X.K X.mg X.base (L2.CX X.prog X.w) k f fd ps (spF X.mg X.K n M)) (hr : Room k X.A) (hb : Binds X.K fd ps []) (tk : Takes X W)
    (ht : eval (.Call (.Attribute o m apos) [] [] pos) X.env = (do
      let ov ← eval o X.env
      standAt apos.atName
      let (f, first) ← holding [ov] (getMethod ov m pl)
      callWith pos f first (backTo pos (starEach [] X.env)) (backToKw pos (keywordEach [] X.env))) := by rfl) :
    SE X W (.Call (.Attribute o m apos) [] [] pos) (mMethL c m M n mo mNil) := ⟨⟨fun pins s σ H Q I ⟨ι, g, ρ, r, hρ, h⟩ => by
  refine PySem.W.methodCall_KW (pl := pl) (thn (he.pe.run pins s σ H _ I ⟨ι, g, ρ, r, hρ, RunX.bind (Dn := fun ι H v d => Den X.K ι H v d) h⟩) fun u s1 ⟨x, H1, I1, rx, ι1, g1, d, s1', hd, h1⟩ => ?_) ht
  cases hd with
  | @obj a j hj =>
    cases rx
    cases e1 : g1[j]? with
    | none => simp only [e1] at h1; exact h1.elim
    | some ob =>
      cases ob with
      | ins c' fs =>
        simp only [e1] at h1
        by_cases hc : c' = c ∧ fGet fs m = none
        · rw [if_pos hc] at h1
          obtain ⟨C', dx, qs, hH, hC', hf⟩ := s1'.rel.at_ j _ a e1 hj
          rw [hc.1, hC] at hC'
          cases hC'
          refine getmeth_ok I1 hH cl hm (fld_none hf hc.2) ?_
          refine PySem.W.callWith_K0 (first := [.ref a]) I1.kIn hm.kp (run_fnSD (us := [.ref a]) (vs := [.ref a]) (dvs := []) (ds := []) (E := WE W) F hr hb .nil (passAt tk σ) I1 (.cons rfl .nil) ?_)
          rw [List.append_nil]
          exact callL_run (E := fun _ => WE W σ) (ds := [.obj j]) s1'.rel (.cons (.obj hj) .nil) h1
        · rw [if_neg hc] at h1; exact h1.elim
      | _ => simp only [e1] at h1; exact h1.elim
  | _ => exact h1.elim⟩⟩
end
end L3

/-! L4D: calls and methods step by step, for runs with a symbol. -/
namespace L3
open PySem PySem.Spec L2
theorem callL_congr {M : FM} {n : Nat} {ds ds0 : List D} {g g0 : GH} {r : R D} (hd : renDs (ixOf (lentOf ds g)) ds = some ds0) (hg : pick (ixOf (lentOf ds g)) g (lentOf ds g) = some g0) (h : M ds0 g0 = r) : callL M n ds g = callL (fun _ _ => r) n ds g := by
  unfold callL
  simp only [hd, hg, h]
theorem meth_2L {c m : Str} {M : FM} {ρ : Rho} {g : GH} {oi ai k : Nat} {fs : List (Str × D)} {d : D} (ho : ρ[oi]? = some (some (.obj k))) (hk : g[k]? = some (.ins c fs)) (hf : fGet fs m = none) (ha : ρ[ai]? = some (some d)) :
    mMethL c m M 2 (mVar oi) (mCons (mVar ai) mNil) ρ g = callL M 2 [.obj k, d] g := by
  simp only [mMethL, mVar, ho, R.bind_ok, hk, hf, and_self, if_true, mCons, ha, mNil]
theorem sExp_ok {m : EM} {ρ : Rho} {g g1 : GH} {d : D} (h : m ρ g = .ok d g1) : sExp m ρ g = .ok (.nx ρ) g1 := by
  unfold sExp; rw [h]; rfl
theorem fnM_nx {N : Nat} {B : SM} {ds : List D} {g g' : GH} {ρ : Rho} (h : B (ds.map some ++ List.replicate (N - ds.length) none) g = .ok (.nx ρ) g') : fnM N B ds g = .ok .non g' := by
  unfold fnM; rw [h]
theorem seq_eq {a b : SM} {ρ : Rho} {g : GH} {r : RS} (h : a ρ g = r) : sSeq a b ρ g = r.nx b := by
  unfold sSeq; rw [h]
theorem eq_same {d e z : D} {g : GH} (h1 : snapD g 16 d = some z) (h2 : snapD g 16 e = some z) (hf : D.fit 16 z = true) : opEqB d e g = some true := by
  unfold opEqB
  rw [h1, h2]
  simp only [hf, and_self, if_true]
  rw [show peq z z = true from PySem.SeqAt.eqv_refl _ (D.fit_spec 16 z hf).1]
theorem ne_same {a b : EM} {ρ : Rho} {g g1 g2 : GH} {d e : D} (ha : a ρ g = .ok d g1) (hb : b ρ g1 = .ok e g2) (h : opEqB d e g2 = some true) : mOp2 opNe a b ρ g = .ok (.bl false) g2 := by
  unfold mOp2 opNe
  rw [ha]
  simp only [R.bind_ok]
  rw [hb]
  simp only [R.bind_ok, h]
  rfl
end L3

/-! L4E: lists locked while they are walked (lists that hold more than numbers). -/
namespace L3
open PySem PySem.Spec L2
theorem PE.any {X : Cx} {e : Expr} {t : TE} (h : ∀ σ H Q, t σ H Q → ∃ t', PE X e t' ∧ t' σ H Q) : PE X e t := ⟨fun pins s σ H Q I q => by
  obtain ⟨t', h1, h2⟩ := h σ H Q q
  exact h1.run pins s σ H Q I h2⟩
theorem PS.any {X : Cx} {e : Stmt} {t : TS} (h : ∀ D σ H, t D σ H → ∃ t', PS X e t' ∧ t' D σ H) : PS X e t := ⟨fun pins s σ H D I q => by
  obtain ⟨t', h1, h2⟩ := h D σ H q
  exact h1.run pins s σ H D I h2⟩
def notInt : D → Bool
  | .int _ => false
  | _ => true
def lkL (m : EM) (ρ : Rho) (g : GH) : Option (Nat × List D) := match m ρ g with
  | .ok (.obj n) _ => match g[n]? with
    | some (.lst ds) => if ds.any notInt = true then some (n, ds) else none
    | _ => none
  | _ => none
def unlkL (n : Nat) (g : GH) : Option GH := match g[n]? with
  | some (.frz (.lst ds)) => some (g.set n (.lst ds))
  | _ => none
def sLockL (m : EM) (b : SM) : SM := fun ρ g => match lkL m ρ g with
  | some (n, ds) => match b ρ (g.set n (.frz (.lst ds))) with
    | .ok f g1 => match unlkL n g1 with
      | some g2 => .ok f g2
      | none => .bad
    | r => r
  | none => b ρ g
def mLockL (m : EM) (b : EM) : EM := fun ρ g => match lkL m ρ g with
  | some (n, ds) => match b ρ (g.set n (.frz (.lst ds))) with
    | .ok d g1 => match unlkL n g1 with
      | some g2 => .ok d g2
      | none => .bad
    | r => r
  | none => b ρ g
section
variable {mg : Str → Option Value} {K : PySem.W.Frag} {ι ι' : List Addr} {g g' : GH} {H H' : Hp} {n : Nat} {a : Addr} {ds : List D} {xs0 : List V}
theorem notInt_of : ∀ {vs : List V} {ds : List D}, DenAll K ι H vs ds → ds.any notInt = true → ¬ AllInt vs
  | _, _, .nil, h => by cases h
  | v :: vs, d :: ds, .cons a b, h => fun ai => by
    rw [List.any_cons, Bool.or_eq_true] at h
    rcases h with h | h
    · obtain ⟨i, rfl⟩ := ai v List.mem_cons_self
      cases a
      cases h
    · exact notInt_of b h fun x hx => ai x (List.mem_cons_of_mem _ hx)
theorem lockL_step (r : Rel mg K ι g H) (hn : ι[n]? = some a) (hu : H a = some (.lst xs0)) (dc : DenAll K ι H xs0 ds) (ni : ¬ AllInt xs0) (od : Obj) : Step mg K ι H ι (g.set n (.frz (.lst ds))) (upd H a (.frz od (.lst xs0))) :=
  Step.write r hn (fun H' hT hP hH => ⟨od, xs0, hH, DenAll.mono (fun _ _ h => h) hT hP _ _ dc, ni⟩) fun ob x z => by rw [hu] at z; cases z
theorem unlockL_step {od : Obj} {g2 : GH} (r : Rel mg K ι g H) (hn : ι[n]? = some a) (hu : H a = some (.lst xs0)) (dc : DenAll K ι H xs0 ds) (ni : ¬ AllInt xs0) (s : Step mg K ι (upd H a (.frz od (.lst xs0))) ι' g' H') (hg : unlkL n g' = some g2) :
    Step mg K ι H ι' g2 (upd H' a (.lst xs0)) ∧ (∀ v d, Den K ι' H' v d → Den K ι' (upd H' a (.lst xs0)) v d) := by
  have s1 := lockL_step r hn hu dc ni od
  have ha := s.frz a od _ upd_same
  have hn' := s.ix _ _ hn
  have nT : ∀ b xs, H' b = some (.tup xs) → b ≠ a := fun b xs e z => by rw [z, ha] at e; cases e
  have nF : ∀ b o xs, H' b = some (.frz o (.tup xs)) → b ≠ a := fun b o xs e z => by
    rw [z, ha] at e
    cases e
  have nL : ∀ b o xs, H' b = some (.frz o (.lst xs)) → AllInt xs → b ≠ a := fun b o xs e ai z => by
    rw [z, ha] at e
    cases e
    exact ni ai
  have hT : ∀ b xs, TpT K H' b xs → TpT K (upd H' a (.lst xs0)) b xs := fun b xs q => by
    refine ⟨?_, fun ne => by rw [upd_ne (nT _ _ (q.2 ne))]; exact q.2 ne⟩
    rcases q.1 with (q' | ⟨o, q'⟩) | q'
    · exact .inl (.inl (by rw [upd_ne (nT _ _ q')]; exact q'))
    · exact .inl (.inr ⟨o, by rw [upd_ne (nF _ _ _ q')]; exact q'⟩)
    · exact .inr q'
  have hP : ∀ b xs, SqP K H' b xs → SqP K (upd H' a (.lst xs0)) b xs := fun b xs q => by
    rcases q with ⟨o, q', ai⟩ | q'
    · exact .inl ⟨o, by rw [upd_ne (nL _ _ _ q' ai)]; exact q', ai⟩
    · exact .inr q'
  have hm : a ∈ ι := List.mem_of_getElem? hn
  unfold unlkL at hg
  cases e : g'[n]? with
  | none => rw [e] at hg; cases hg
  | some o =>
    cases o with
    | frz o =>
      cases o with
      | lst ds' =>
        rw [e] at hg
        simp only [Option.some.injEq] at hg
        subst hg
        refine ⟨⟨s.pre, ⟨by simp [s.rel.len], s.rel.nd, fun m o b h k => ?_⟩, fun b o e1 e2 => ?_, fun b e1 e2 => ?_, fun b xs q => hT _ _ (s.tup _ _ (s1.tup _ _ q)), fun b xs q => hP _ _ (s.rol _ _ (s1.rol _ _ q)), fun b o x q => ?_⟩, fun v d q => Den.mono (fun _ _ h => h) hT hP _ _ q⟩
        · by_cases hmn : m = n
          · subst hmn
            rw [hn'] at k; cases k
            have hlt : m < g'.length := (List.getElem?_eq_some_iff.mp e).1
            rw [List.getElem?_set_self hlt] at h
            cases h
            obtain ⟨ob, u', h1, h2, _⟩ := s.rel.at_ m _ a e hn'
            rw [ha] at h1
            cases h1
            exact ⟨xs0, upd_same, DenAll.mono (fun _ _ h => h) hT hP _ _ h2⟩
          · rw [List.getElem?_set_ne (Ne.symm hmn)] at h
            refine (s.rel.at_ m o b h k).mono (fun _ _ h => h) hT hP fun w hw => ?_
            rw [upd_ne fun z => ?_]
            · exact hw
            · subst z
              obtain ⟨l1, q1⟩ := List.getElem?_eq_some_iff.mp k
              obtain ⟨l2, q2⟩ := List.getElem?_eq_some_iff.mp hn'
              exact hmn (nodup_at s.rel.nd l1 l2 (by rw [q1, q2]))
        · have ne : b ≠ a := fun z => e2 (by rw [z]; exact hm)
          rw [upd_ne ne]
          exact s.frm b o (by rw [upd_ne ne]; exact e1) e2
        · have ne : b ≠ a := fun z => e2 (by rw [z]; exact hm)
          have := s.new b e1 e2
          rw [upd_ne ne] at this
          exact this
        · have ne : b ≠ a := fun z => by
            rw [z, hu] at q
            cases q
          rw [upd_ne ne]
          exact s.frz b o x (by rw [upd_ne ne]; exact q)
      | _ => rw [e] at hg; cases hg
    | _ => rw [e] at hg; cases hg
theorem lkL_of {m : EM} {ρ : Rho} (r : Rel mg K ι g H) (h : lkL m ρ g = some (n, ds)) : ∃ a xs, ι[n]? = some a ∧ H a = some (.lst xs) ∧ DenAll K ι H xs ds ∧ ¬ AllInt xs := by
  unfold lkL at h
  split at h
  · next k g1 e =>
    split at h
    · next ds' e1 =>
      split at h
      · next hc =>
        cases h
        obtain ⟨a, ha, xs, hu, dc⟩ := r.place e1
        exact ⟨a, xs, ha, hu, dc, notInt_of dc hc⟩
      · cases h
    · cases h
  · cases h
end
section
variable {X : Cx} {W : WX} {st : Stmt} {e : Expr} {m : EM} {b : SM} {me : EM}
theorem ss_lockL (h : SS X W st b) (m : EM) : SS X W st (sLockL m b) := ⟨PS.any fun D σ H ⟨ι, g, ρ, r, hρ, q⟩ => by
  unfold sLockL at q
  cases el : lkL m ρ g with
  | none => simp only [el] at q; exact ⟨_, h.ps, ι, g, ρ, r, hρ, q⟩
  | some p =>
    obtain ⟨n, ds⟩ := p
    simp only [el] at q
    obtain ⟨a, xs0, hn, hu, dc, ni⟩ := lkL_of r el
    refine ⟨_, ps_lock h.ps, a, .lst xs0, hu, trivial, fun od => ?_⟩
    have s1 := lockL_step r hn hu dc ni od
    refine ⟨ι, _, ρ, s1.rel, hρ.step s1, ?_⟩
    cases eb : b ρ (g.set n (.frz (.lst ds))) with
    | bad => simp only [eb] at q; exact q
    | ex c fs ρ1 g1 => simp only [eb] at q; exact fun ι2 H2 σ2 cls dx s2 e2 x => q ι2 H2 σ2 cls dx (s1.trans s2) e2 x
    | ok f g1 =>
      simp only [eb] at q
      cases eu : unlkL n g1 with
      | none => simp only [eu] at q; exact q.elim
      | some g2 =>
        simp only [eu] at q
        have env : ∀ ι2 H2 σ2 ρ2, Step X.mg X.K ι (upd H a (.frz od (.lst xs0))) ι2 g1 H2 → EnvR X.K ι2 H2 σ2 ρ2 → EnvR X.K ι2 (upd H2 a (.lst xs0)) σ2 ρ2 := fun ι2 H2 σ2 ρ2 s2 e2 => ⟨e2.1, fun i d hd => by
          obtain ⟨v, hv, hd⟩ := e2.2 i d hd
          exact ⟨v, hv, (unlockL_step r hn hu dc ni s2 eu).2 _ _ hd⟩⟩
        cases f with
        | nx ρ1 => exact fun ι2 H2 σ2 s2 e2 => ⟨s2.frz _ _ _ upd_same, q ι2 _ σ2 (unlockL_step r hn hu dc ni s2 eu).1 (env _ _ _ _ s2 e2)⟩
        | rt d => exact fun ι2 H2 v s2 hv => ⟨s2.frz _ _ _ upd_same, q ι2 _ v (unlockL_step r hn hu dc ni s2 eu).1 ((unlockL_step r hn hu dc ni s2 eu).2 _ _ hv)⟩
        | bk ρ1 => exact fun ι2 H2 σ2 s2 e2 => ⟨s2.frz _ _ _ upd_same, q ι2 _ σ2 (unlockL_step r hn hu dc ni s2 eu).1 (env _ _ _ _ s2 e2)⟩
        | ct ρ1 => exact fun ι2 H2 σ2 s2 e2 => ⟨s2.frz _ _ _ upd_same, q ι2 _ σ2 (unlockL_step r hn hu dc ni s2 eu).1 (env _ _ _ _ s2 e2)⟩⟩
theorem se_lockL (h : SE X W e me) (m : EM) : SE X W e (mLockL m me) := ⟨PE.any fun σ H Q ⟨ι, g, ρ, r, hρ, q⟩ => by
  unfold mLockL at q
  cases el : lkL m ρ g with
  | none => simp only [el] at q; exact ⟨_, h.pe, ι, g, ρ, r, hρ, q⟩
  | some p =>
    obtain ⟨n, ds⟩ := p
    simp only [el] at q
    obtain ⟨a, xs0, hn, hu, dc, ni⟩ := lkL_of r el
    refine ⟨_, pe_lock h.pe, a, .lst xs0, hu, trivial, fun od => ?_⟩
    have s1 := lockL_step r hn hu dc ni od
    refine ⟨ι, _, ρ, s1.rel, hρ.step s1, ?_⟩
    cases eb : me ρ (g.set n (.frz (.lst ds))) with
    | bad => simp only [eb] at q; exact q
    | ex c fs g1 => simp only [eb] at q; exact fun ι2 H2 cls dx s2 x => q ι2 H2 cls dx (s1.trans s2) x
    | ok d g1 =>
      simp only [eb] at q
      cases eu : unlkL n g1 with
      | none => simp only [eu] at q; exact q.elim
      | some g2 =>
        simp only [eu] at q
        exact fun ι2 H2 v s2 hv => ⟨s2.frz _ _ _ upd_same, q ι2 _ v (unlockL_step r hn hu dc ni s2 eu).1 ((unlockL_step r hn hu dc ni s2 eu).2 _ _ hv)⟩⟩
end
/-- a walk of what may be locked -/
def mItF (m : EM) : IM := fun ρ g => (m ρ g).bind fun d g1 => match d with
  | .tup ds => .ok (ds, []) g1
  | .rol ds => .ok (ds, []) g1
  | .obj n => match g1[n]? with
    | some (.lst ds) => .ok (ds, [(n, ds)]) g1
    | some (.frz (.lst ds)) => .ok (ds, []) g1
    | _ => .bad
  | _ => .bad
theorem jok_listF {mg : Str → Option Value} {K : PySem.W.Frag} {ι0 : List Addr} {H0 : Hp} {a : Addr} {ob : Obj} {ds : List D} {xs : List V} (hp : H0 a = some (.frz ob (.lst xs))) (hd : DenAll K ι0 H0 xs ds) : JOk mg K (Itl K a) ds [] ι0 H0 := fun i ι g H s hc => by
  have hx : SqL K H a xs := .inl (.inr ⟨ob, s.frz _ _ _ hp⟩)
  have hxs := s.denAll hd
  refine ⟨fun d hd => ?_, fun hl => ⟨xs, hx, by rw [hxs.length]; exact Nat.le_of_eq hl.symm⟩⟩
  obtain ⟨v, hv, hvd⟩ := hxs.get hd
  refine ⟨⟨xs, v, hx, hv⟩, fun x H' y => ?_⟩
  obtain ⟨e1, y⟩ := y
  subst e1
  have := y xs hx
  rw [hv] at this; cases this
  exact ⟨Step.refl s.rel, hvd⟩
section
variable {X : Cx} {W : WX} {tg e : Expr} {m : EM}
theorem si_seqF (h : SE X W e m) : SI X W tg e (mItF m) := ⟨PI.any fun σ H Q ⟨ι, g, ρ, r, hρ, q⟩ => by
  cases em : m ρ g with
  | ok d g1 =>
    have q' : RunI X.mg X.K _ ι H Q (mItF m ρ g) := q
    unfold mItF at q'
    rw [em] at q'
    simp only [R.bind_ok] at q'
    cases d with
    | tup ds =>
      refine ⟨_, pi_tup h.pe, ι, g, ρ, r, hρ, ?_⟩
      rw [em]
      intro ι1 H1 v s hv
      cases hv with
      | @tup a xs ds' ha hxs => exact ⟨a, rfl, ⟨xs, ha.1⟩, q' ι1 H1 _ s (jok_tup ha hxs)⟩
    | rol ds =>
      refine ⟨_, pi_list h.pe, ι, g, ρ, r, hρ, ?_⟩
      rw [em]
      intro ι1 H1 v s hv
      cases hv with
      | @rol a xs ds' ha hxs => exact ⟨a, rfl, ⟨xs, SqP.sq ha⟩, q' ι1 H1 _ s (jok_rol ha hxs)⟩
    | obj n =>
      refine ⟨_, pi_list h.pe, ι, g, ρ, r, hρ, ?_⟩
      rw [em]
      intro ι1 H1 v s hv
      cases hv with
      | @obj a n' hn =>
        cases e1 : g1[n]? with
        | none => simp only [e1] at q'; exact q'.elim
        | some o =>
          cases o with
          | lst ds =>
            simp only [e1] at q'
            obtain ⟨xs, hx, hxs⟩ := s.rel.at_ n _ a e1 hn
            exact ⟨a, rfl, ⟨xs, SqL.of hx⟩, q' ι1 H1 _ s (jok_list hn)⟩
          | frz o =>
            cases o with
            | lst ds =>
              simp only [e1] at q'
              obtain ⟨ob, xs, hx, hxs, _⟩ := s.rel.at_ n _ a e1 hn
              exact ⟨a, rfl, ⟨xs, .inl (.inr ⟨ob, hx⟩)⟩, q' ι1 H1 _ s (jok_listF hx hxs)⟩
            | _ => simp only [e1] at q'; exact q'.elim
          | _ => simp only [e1] at q'; exact q'.elim
    | _ => exact q'.elim
  | ex c fs g1 =>
    refine ⟨_, pi_tup h.pe, ι, g, ρ, r, hρ, ?_⟩
    have q' : RunI X.mg X.K _ ι H Q (mItF m ρ g) := q
    unfold mItF at q'
    rw [em] at q' ⊢
    exact q'
  | bad =>
    have q' : RunI X.mg X.K _ ι H Q (mItF m ρ g) := q
    unfold mItF at q'
    rw [em] at q'
    exact q'.elim⟩
/-- a fresh list that is walked: locked for good -/
def mFrzL (m : EM) : EM := fun ρ g => (m ρ g).bind fun d g1 => match d with
  | .obj n => match g1[n]? with
    | some (.lst ds) => if ds.any notInt = true then .ok (.obj n) (g1.set n (.frz (.lst ds))) else .ok (.obj n) g1
    | _ => .bad
  | d => .ok d g1
def tFrzL (t : TE) : TE := fun σ H Q => t σ H fun v H1 => Q v H1 ∨ ∃ a u, v = .ref a ∧ H1 a = some u ∧ Mut (some u) ∧ ∀ od, Q v (upd H1 a (.frz od u))
theorem pe_frzL {t : TE} (h : PE X e t) : PE X e (tFrzL t) := ⟨fun pins s σ H Q I q =>
  thn (h.run pins s σ H _ I q) fun v s1 ⟨x, H1, I1, r1, q1⟩ => by
    rcases q1 with q1 | ⟨a, u, ex, hu, mu, q1⟩
    · exact ⟨x, _, I1, r1, q1⟩
    · obtain ⟨od, I2⟩ := I1.lock hu mu
      exact ⟨x, _, I2, r1, q1 od⟩⟩
theorem se_frzL (h : SE X W e m) : SE X W e (mFrzL m) := ⟨PE.imp (pe_frzL h.pe) fun σ H Q ⟨ι, g, ρ, r, hρ, q⟩ => by
  refine ⟨ι, g, ρ, r, hρ, RunX.mono (RunX.bind (Dn := fun ι H v d => Den X.K ι H v d) q) fun v H1 ⟨ι1, g1, d, s1, hd, h1⟩ => ?_⟩
  cases d with
  | obj n =>
    cases hd with
    | @obj a n hn =>
      cases e1 : g1[n]? with
      | none => simp only [e1] at h1; exact h1.elim
      | some o =>
        cases o with
        | lst ds =>
          simp only [e1] at h1
          obtain ⟨xs, hu, dc⟩ := s1.rel.at_ n _ a e1 hn
          by_cases hc : ds.any notInt = true
          · rw [if_pos hc] at h1
            exact .inr ⟨a, _, rfl, hu, trivial, fun od => h1 _ _ _ (lockL_step s1.rel hn hu dc (notInt_of dc hc) od) (.obj hn)⟩
          · rw [if_neg hc] at h1
            exact .inl (h1 _ _ _ (Step.refl s1.rel) (.obj hn))
        | _ => simp only [e1] at h1; exact h1.elim
  | _ => exact .inl (h1 _ _ _ (Step.refl s1.rel) hd)⟩
end
end L3


namespace K42
open PySem PySem.Spec L2 L3
def top (i : Nat) : Stmt := PySem.Challenge.pw_linesofreturn_k42_known_towns.main.body.getD i (.Pass ⟨0, 0, 0, 0⟩)
def kvs_SIZES : List (Str × Int) := [("put", 3), ("step", 4), ("write", 2), ("keep", 2), ("fall", 2), ("clear", 1)]
def tab_SIZES : List (Str × D) := kvs_SIZES.map fun p => (p.1, .int p.2)
def tups_WAYS : List Str := ["wait", "free", "along"]
def tup_WAYS : List D := tups_WAYS.map D.str
/-! ### the functions -/
def gd0_Town_init (ds es : List D) : List D := ds ++ ([.str "wait"] ++ es)
def gd1_Town_init (ds es : List D) : List D := ds ++ ([] ++ es)
def B_is_whole : SM := (sRet (mAnd (mOp1 (opIsi "int") (mVar 0)) (mNot (mOp1 (opIsi "bool") (mVar 0)))))
def M_is_whole : FM := fnM 1 B_is_whole
def B_is_within : SM := (sRet (mAnd (mCallL M_is_whole 1 (mCons (mVar 0) mNil)) (mChain opLeX opLeX (mVar 1) (mVar 0) (mVar 2))))
def M_is_within : FM := fnM 3 B_is_within
def B_are_targets : SM := (sSeq (sIf (mOr (mNot (mOp1 (opIsi "tuple") (mVar 2))) (mOp2 opGtX (mOpL opLen (mCons (mVar 2) mNil)) (mC (.int 3)))) (sRet (mC (.bl false))) sSkip) (sRet (mOpL opAll (mCons (mLockL (mVar 2) (mLc (mItF (mVar 2)) (.nm 3) mYes (mAnd (mCallL M_is_within 3 (mCons (mVar 3) (mCons (mC (.int 0)) (mCons (mVar 0) mNil)))) (mOp2 opNe (mVar 3) (mVar 1))) [3])) mNil))))
def M_are_targets : FM := fnM 4 B_are_targets
def B_are_tables : SM := (sSeq (sIf (mOr (mNot (mOp1 (opIsi "tuple") (mVar 0))) (mNot (mChain opLeX opLeX (mC (.int 2)) (mOpL opLen (mCons (mVar 0) mNil)) (mC (.int 6))))) (sRet (mC (.bl false))) sSkip) (sSeq (sFor (mItE (mVar 0)) (gTp 2 (gCn (gNm 1) (gCn (gNm 2) gNl))) (sSeq (sIf (mOr (mNot (mOp1 (opIsi "tuple") (mVar 2))) (mNot (mChain opLeX opLeX (mC (.int 1)) (mOpL opLen (mCons (mVar 2) mNil)) (mC (.int 4))))) (sRet (mC (.bl false))) sSkip) (sIf (mNot (mOpL opAll (mCons (mLockL (mVar 2) (mLc (mItF (mVar 2)) (.nm 3) mYes (mCallL M_are_targets 3 (mCons (mOpL opLen (mCons (mVar 0) mNil)) (mCons (mVar 1) (mCons (mVar 3) mNil)))) [3])) mNil))) (sRet (mC (.bl false))) sSkip))) (sRet (mC (.bl true)))))
def M_are_tables : FM := fnM 4 B_are_tables
def B_Town_init : SM := (sSeq (sIf (mNot (mCallL M_are_tables 1 (mCons (mVar 1) mNil))) sBad sSkip) (sSeq (sIf (mOr (mNot (mOp1 (opIsi "str") (mVar 2))) (mGIn tup_WAYS true (mVar 2))) sBad sSkip) (sSeq (sSetF ["Town"] "own_tables" (mVar 0) (mVar 1)) (sSeq (sSetF ["Town"] "own_way" (mVar 0) (mVar 2)) (sSeq (sSetF ["Town"] "own_many" (mVar 0) (mOpL opLen (mCons (mVar 1) mNil))) (sSeq (sSetF ["Town"] "rows" (mVar 0) (mLst mNil)) (sSeq (sSetF ["Town"] "own_written" (mVar 0) (mOp2 opMul (mLst (mCons (mC (.int 0)) mNil)) (mOp1 (opFld ["Town"] "own_many") (mVar 0)))) (sSeq (sSetF ["Town"] "told_rows" (mVar 0) (mLst mNil)) (sSeq (sSetF ["Town"] "fall_rows" (mVar 0) (mLst mNil)) (sSeq (sSetF ["Town"] "begun_from" (mVar 0) (mOp2 opMul (mLst (mCons (mC (.int 0)) mNil)) (mOp1 (opFld ["Town"] "own_many") (mVar 0)))) (sSetF ["Town"] "done" (mVar 0) (mLst mNil))))))))))))
def M_Town_init : FM := fnM 3 B_Town_init
def B__law_row_of : SM := (sRet (mMakeK "Town" M_Town_init 3 1 1 gd1_Town_init (mCons (mTup (mCons (mTup (mCons (mTup (mCons (mC (.int 1)) mNil)) mNil)) (mCons (mTup (mCons (mTup (mCons (mC (.int 2)) mNil)) mNil)) (mCons (mTup (mCons (mTup (mCons (mC (.int 3)) mNil)) mNil)) mNil)))) mNil) (mCons (mVar 0) mNil)))
def M__law_row_of : FM := fnM 1 B__law_row_of
def B_Town_take_over : SM := (sSeq (sAsg (mTup (mCons (mOpL opList (mCons (mOp1 (opFld ["Town"] "rows") (mVar 1)) mNil)) (mCons (mOpL opList (mCons (mOp1 (opFld ["Town"] "own_written") (mVar 1)) mNil)) mNil))) (gTp 2 (gCn (gFd ["Town"] "rows" (mVar 0)) (gCn (gFd ["Town"] "own_written" (mVar 0)) gNl)))) (sSeq (sAsg (mTup (mCons (mOpL opList (mCons (mOp1 (opFld ["Town"] "told_rows") (mVar 1)) mNil)) (mCons (mOpL opList (mCons (mOp1 (opFld ["Town"] "fall_rows") (mVar 1)) mNil)) mNil))) (gTp 2 (gCn (gFd ["Town"] "told_rows" (mVar 0)) (gCn (gFd ["Town"] "fall_rows" (mVar 0)) gNl)))) (sAsg (mTup (mCons (mOpL opList (mCons (mOp1 (opFld ["Town"] "begun_from") (mVar 1)) mNil)) (mCons (mOpL opList (mCons (mOp1 (opFld ["Town"] "done") (mVar 1)) mNil)) mNil))) (gTp 2 (gCn (gFd ["Town"] "begun_from" (mVar 0)) (gCn (gFd ["Town"] "done" (mVar 0)) gNl))))))
def M_Town_take_over : FM := fnM 2 B_Town_take_over
def B_Town_first_untold : SM := (sSeq (sLock (mOp1 (opFld ["Bearing"] "step_of") (mVar 1)) (sFor (mItI (mOp1 (opFld ["Bearing"] "step_of") (mVar 1))) (gTp 2 (gCn (gNm 6) (gCn (gNm 7) gNl))) (sIf (mAnd (mOp2 opEq (mVar 7) (mTup (mCons (mVar 2) (mCons (mVar 3) mNil)))) (mAnd (mOp2 opEq (mOp2 opIx (mOp2 opIx (mOp1 (opFld ["Going"] "all_letters") (mVar 5)) (mVar 6)) (mC (.int 0))) (mOp1 (opFld ["Town"] "own_many") (mVar 0))) (mOp2 opNotIn (mVar 6) (mOp1 (opFld ["Bearing"] "takers") (mVar 1))))) (sIf (mOpL opAll (mCons (mLock (mOp2 opIx (mOp1 (opFld ["Bearing"] "borne") (mVar 1)) (mVar 6)) (mLc (mItK (mOp2 opIx (mOp1 (opFld ["Bearing"] "borne") (mVar 1)) (mVar 6))) (.tp [8, 9]) mYes (mOp2 opLeX (mVar 9) (mOp2 opIx (mVar 4) (mVar 8))) [8, 9])) mNil)) (sRet (mVar 6)) sSkip) sSkip))) (sRet (mC .non)))
def M_Town_first_untold : FM := fnM 10 B_Town_first_untold
def B_taken_worth : SM := (sRet (mOp2 opMod (mOp2 opAdd (mOp2 opAdd (mOp2 opMul (mC (.int 3)) (mVar 0)) (mVar 1)) (mC (.int 1))) (mOp2 opAdd (mC (.int 999)) (mC (.int 1)))))
def M_taken_worth : FM := fnM 2 B_taken_worth
def B_Going_do : SM := (sSeq (sAsg (mVar 1) (gTs 3 2 (gCn (gNm 2) (gCn (gNm 3) (gCn (gNm 4) gNl))))) (sSeq (sAsg (mOpL opLen (mCons (mOp2 opIx (mOp1 (opFld ["Going"] "rows") (mVar 0)) (mVar 3)) mNil)) (gNm 5)) (sSeq (sIf (mOp2 opEq (mVar 2) (mC (.str "own"))) (sAsg (mOp2 opIx (mVar 4) (mC (.int 0))) (gSb (mOp1 (opFld ["Going"] "worths") (mVar 0)) (mVar 3))) (sIf (mOp2 opEq (mVar 2) (mC (.str "send"))) (sSeq (sAsg (mTup (mCons (mOp2 opIx (mVar 4) (mC (.int 0))) (mCons (mOp2 opIx (mOp1 (opFld ["Going"] "worths") (mVar 0)) (mVar 3)) (mCons (mVar 5) (mCons (mC .non) mNil))))) (gSb (mOp1 (opFld ["Going"] "all_letters") (mVar 0)) (mTup (mCons (mVar 3) (mCons (mOp2 opIx (mOp1 (opFld ["Going"] "sent") (mVar 0)) (mVar 3)) mNil))))) (sAugS opAddI (mOp1 (opFld ["Going"] "sent") (mVar 0)) (mVar 3) (mC (.int 1)))) (sIf (mOp2 opEq (mVar 2) (mC (.str "take"))) (sSeq (sAsg (mOp2 opIx (mOp1 (opFld ["Going"] "all_letters") (mVar 0)) (mTup (mCons (mOp2 opIx (mVar 4) (mC (.int 0))) (mCons (mOp2 opIx (mVar 4) (mC (.int 1))) mNil)))) (gTp 4 (gCn (gNm 6) (gCn (gNm 7) (gCn (gNm 8) (gCn (gNm 9) gNl)))))) (sSeq (sAsg (mTup (mCons (mVar 6) (mCons (mVar 7) (mCons (mVar 8) (mCons (mVar 5) mNil))))) (gSb (mOp1 (opFld ["Going"] "all_letters") (mVar 0)) (mTup (mCons (mOp2 opIx (mVar 4) (mC (.int 0))) (mCons (mOp2 opIx (mVar 4) (mC (.int 1))) mNil))))) (sSeq (sAsg (mCallL M_taken_worth 2 (mCons (mOp2 opIx (mOp1 (opFld ["Going"] "worths") (mVar 0)) (mVar 3)) (mCons (mVar 7) mNil))) (gSb (mOp1 (opFld ["Going"] "worths") (mVar 0)) (mVar 3))) (sAsg (mC (.str "up")) (gSb (mOp1 (opFld ["Going"] "moods") (mVar 0)) (mVar 3)))))) (sIf (mOp2 opEq (mVar 2) (mC (.str "rest"))) (sAsg (mC (.str "rest")) (gSb (mOp1 (opFld ["Going"] "moods") (mVar 0)) (mVar 3))) (sIf (mOp2 opEq (mVar 2) (mC (.str "wait"))) (sAsg (mTup (mCons (mC (.str "wait")) (mCons (mOp2 opIx (mVar 4) (mC (.int 0))) mNil))) (gSb (mOp1 (opFld ["Going"] "moods") (mVar 0)) (mVar 3))) sSkip))))) (sExp (mMt "list" opAppend (mOp2 opIx (mOp1 (opFld ["Going"] "rows") (mVar 0)) (mVar 3)) (mCons (mVar 1) mNil))))))
def M_Going_do : FM := fnM 10 B_Going_do
def B_Going_init : SM := (sSeq (sSetF ["Going"] "worths" (mVar 0) (mOp2 opMul (mLst (mCons (mC (.int 0)) mNil)) (mVar 1))) (sSeq (sSetF ["Going"] "moods" (mVar 0) (mOp2 opMul (mLst (mCons (mC (.str "up")) mNil)) (mVar 1))) (sSeq (sSetF ["Going"] "rows" (mVar 0) (mLc (mRng1 (mVar 1)) (.nm 2) mYes (mLst mNil) [2])) (sSeq (sSetF ["Going"] "sent" (mVar 0) (mOp2 opMul (mLst (mCons (mC (.int 0)) mNil)) (mVar 1))) (sSetF ["Going"] "all_letters" (mVar 0) (mDNew true))))))
def M_Going_init : FM := fnM 3 B_Going_init
def B_Town_going : SM := (sSeq (sAsg (mMake "Going" M_Going_init 2 (mCons (mOp2 opAdd (mOp1 (opFld ["Town"] "own_many") (mVar 0)) (mC (.int 1))) mNil)) (gNm 1)) (sSeq (sLockL (mOp1 (opFld ["Town"] "rows") (mVar 0)) (sFor (mItF (mOp1 (opFld ["Town"] "rows") (mVar 0))) (gTp 2 (gCn (gNm 2) (gCn (gNm 3) gNl))) (sExp (mMethL "Going" "do" M_Going_do 2 (mVar 1) (mCons (mVar 2) mNil))))) (sRet (mVar 1))))
def M_Town_going : FM := fnM 4 B_Town_going
def B_Bearing_init : SM := (sSeq (sSetF ["Bearing"] "own_known" (mVar 0) (mLc (mRng1 (mOp2 opAdd (mVar 1) (mC (.int 1)))) (.nm 7) mYes (mDNew true) [7])) (sSeq (sSetF ["Bearing"] "borne" (mVar 0) (mDNew true)) (sSeq (sSetF ["Bearing"] "step_of" (mVar 0) (mDNew true)) (sSeq (sSetF ["Bearing"] "takers" (mVar 0) (mDNew true)) (sSeq (sAsg (mOp2 opMul (mLst (mCons (mC (.int 0)) mNil)) (mOp2 opAdd (mVar 1) (mC (.int 1)))) (gNm 3)) (sLockL (mVar 2) (sFor (mItF (mVar 2)) (gTp 2 (gCn (gNm 4) (gCn (gNm 5) gNl))) (sSeq (sAsg (mVar 4) (gTs 3 2 (gCn (gNm 6) (gCn (gNm 7) (gCn (gNm 8) gNl))))) (sSeq (sIf (mAnd (mOp2 opLtX (mVar 7) (mVar 1)) (mOp2 opGtX (mVar 5) (mC (.int 0)))) (sAsg (mC (.bl true)) (gSb (mOp2 opIx (mOp1 (opFld ["Bearing"] "own_known") (mVar 0)) (mVar 7)) (mTup (mCons (mVar 7) (mCons (mVar 5) mNil))))) sSkip) (sIf (mOp2 opEq (mVar 6) (mC (.str "take"))) (sSeq (sExp (mMt "dict" opUpdate (mOp2 opIx (mOp1 (opFld ["Bearing"] "own_known") (mVar 0)) (mVar 7)) (mCons (mOp2 opIx (mOp1 (opFld ["Bearing"] "borne") (mVar 0)) (mTup (mCons (mOp2 opIx (mVar 8) (mC (.int 0))) (mCons (mOp2 opIx (mVar 8) (mC (.int 1))) mNil)))) mNil))) (sAsg (mTup (mCons (mVar 7) (mCons (mVar 5) mNil))) (gSb (mOp1 (opFld ["Bearing"] "takers") (mVar 0)) (mTup (mCons (mOp2 opIx (mVar 8) (mC (.int 0))) (mCons (mOp2 opIx (mVar 8) (mC (.int 1))) mNil)))))) (sIf (mOp2 opEq (mVar 6) (mC (.str "send"))) (sSeq (sAsg (mOpL opDictD (mCons (mOp2 opIx (mOp1 (opFld ["Bearing"] "own_known") (mVar 0)) (mVar 7)) mNil)) (gSb (mOp1 (opFld ["Bearing"] "borne") (mVar 0)) (mTup (mCons (mVar 7) (mCons (mOp2 opIx (mVar 3) (mVar 7)) mNil))))) (sSeq (sAsg (mTup (mCons (mVar 7) (mCons (mVar 5) mNil))) (gSb (mOp1 (opFld ["Bearing"] "step_of") (mVar 0)) (mTup (mCons (mVar 7) (mCons (mOp2 opIx (mVar 3) (mVar 7)) mNil))))) (sAugS opAddI (mVar 3) (mVar 7) (mC (.int 1))))) sSkip)))))))))))
def M_Bearing_init : FM := fnM 9 B_Bearing_init
def B_Town_bearing : SM := (sRet (mMake "Bearing" M_Bearing_init 3 (mCons (mOp1 (opFld ["Town"] "own_many") (mVar 0)) (mCons (mOp1 (opFld ["Town"] "rows") (mVar 0)) mNil))))
def M_Town_bearing : FM := fnM 1 B_Town_bearing
def B_Town_tell : SM := (sSeq (sAsg (mMethL "Town" "bearing" M_Town_bearing 1 (mVar 0) mNil) (gNm 1)) (sSeq (sAsg (mOp1 (opFld ["Town"] "own_written") (mVar 0)) (gNm 2)) (sSeq (sAsg (mMethL "Town" "going" M_Town_going 1 (mVar 0) mNil) (gNm 3)) (sFor (mItF (mFrzL (mOpL opList (mCons (mOp1 (opFld ["Town"] "rows") (mVar 0)) mNil)))) (gTp 2 (gCn (gNm 4) (gCn (gNm 5) gNl))) (sIf (mAnd (mOp2 opEq (mOp2 opIx (mVar 4) (mC (.int 0))) (mC (.str "send"))) (mOp2 opEq (mOp2 opIx (mVar 4) (mC (.int 2))) (mOp1 (opFld ["Town"] "own_many") (mVar 0)))) (sSeq (sAsg (mMethL "Town" "first_untold" M_Town_first_untold 6 (mVar 0) (mCons (mVar 1) (mCons (mOp2 opIx (mVar 4) (mC (.int 1))) (mCons (mVar 5) (mCons (mVar 2) (mCons (mVar 3) mNil)))))) (gNm 6)) (sIf (mOp2 opNotN (mVar 6) (mC .non)) (sSeq (sExp (mMt "list" opAppend (mOp1 (opFld ["Town"] "rows") (mVar 0)) (mCons (mTup (mCons (mTup (mCons (mC (.str "take")) (mCons (mOp1 (opFld ["Town"] "own_many") (mVar 0)) (mCons (mOp2 opIx (mVar 6) (mC (.int 0))) (mCons (mOp2 opIx (mVar 6) (mC (.int 1))) mNil))))) (mCons (mC (.int 0)) mNil))) mNil))) (sSeq (sExp (mMt "list" opAppend (mOp1 (opFld ["Town"] "told_rows") (mVar 0)) (mCons (mTup (mCons (mOp2 opIx (mVar 6) (mC (.int 0))) (mCons (mOp2 opIx (mVar 6) (mC (.int 1))) (mCons (mOp2 opIx (mOp2 opIx (mOp1 (opFld ["Going"] "all_letters") (mVar 3)) (mVar 6)) (mC (.int 1))) mNil)))) mNil))) (sAsg (mTup (mCons (mOp1 (opFld ["Town"] "own_many") (mVar 0)) (mCons (mC (.int 0)) mNil))) (gSb (mOp1 (opFld ["Bearing"] "takers") (mVar 1)) (mVar 6))))) sSkip)) sSkip)))))
def M_Town_tell : FM := fnM 7 B_Town_tell
def B_Town_put : SM := (sSeq (sExp (mMt "list" opAppend (mOp1 (opFld ["Town"] "rows") (mVar 0)) (mCons (mTup (mCons (mTup (mCons (mC (.str "own")) (mCons (mOp1 (opFld ["Town"] "own_many") (mVar 0)) (mCons (mVar 2) mNil)))) (mCons (mC (.int 0)) mNil))) mNil))) (sExp (mMt "list" opAppend (mOp1 (opFld ["Town"] "rows") (mVar 0)) (mCons (mTup (mCons (mTup (mCons (mC (.str "send")) (mCons (mOp1 (opFld ["Town"] "own_many") (mVar 0)) (mCons (mVar 1) mNil)))) (mCons (mC (.int 0)) mNil))) mNil))))
def M_Town_put : FM := fnM 3 B_Town_put
def B_Town_count_of : SM := (sRet (mOpL opLen (mCons (mLockL (mOp1 (opFld ["Town"] "rows") (mVar 0)) (mLc (mItF (mOp1 (opFld ["Town"] "rows") (mVar 0))) (.tp [2, 3]) (mAnd (mOp2 opEq (mOp2 opIx (mVar 2) (mC (.int 0))) (mC (.str "take"))) (mOp2 opEq (mOp2 opIx (mVar 2) (mC (.int 1))) (mVar 1))) (mVar 3) [2, 3])) mNil)))
def M_Town_count_of : FM := fnM 4 B_Town_count_of
def B_Town_send_all : SM := (sSeq (sAsg (mOp2 opIx (mOp1 (opFld ["Town"] "own_tables") (mVar 0)) (mVar 1)) (gNm 2)) (sSeq (sAsg (mOp2 opIx (mVar 2) (mOp2 opMod (mOp2 opIx (mOp1 (opFld ["Going"] "worths") (mMethL "Town" "going" M_Town_going 1 (mVar 0) mNil)) (mVar 1)) (mOpL opLen (mCons (mVar 2) mNil)))) (gNm 3)) (sExp (mMt "list" opExtend (mOp1 (opFld ["Town"] "rows") (mVar 0)) (mCons (mLockL (mVar 3) (mLc (mItF (mVar 3)) (.nm 4) mYes (mTup (mCons (mTup (mCons (mC (.str "send")) (mCons (mVar 1) (mCons (mVar 4) mNil)))) (mCons (mMethL "Town" "count_of" M_Town_count_of 2 (mVar 0) (mCons (mVar 1) mNil)) mNil))) [4])) mNil)))))
def M_Town_send_all : FM := fnM 5 B_Town_send_all
def B_Going_can : SM := (sSeq (sAsg (mVar 1) (gTs 3 2 (gCn (gNm 2) (gCn (gNm 3) (gCn (gNm 4) gNl))))) (sSeq (sAsg (mOp2 opIx (mOp1 (opFld ["Going"] "moods") (mVar 0)) (mVar 3)) (gNm 5)) (sSeq (sIf (mOp2 opEq (mVar 2) (mC (.str "keep"))) (sRet (mC (.bl true))) sSkip) (sSeq (sIf (mOp2 opNe (mVar 2) (mC (.str "take"))) (sRet (mOp2 opEq (mVar 5) (mC (.str "up")))) sSkip) (sSeq (sAsg (mDGet (mOp1 (opFld ["Going"] "all_letters") (mVar 0)) (mTup (mCons (mOp2 opIx (mVar 4) (mC (.int 0))) (mCons (mOp2 opIx (mVar 4) (mC (.int 1))) mNil)))) (gNm 6)) (sSeq (sIf (mOr (mOp2 opIsN (mVar 6) (mC .non)) (mOr (mOp2 opNe (mOp2 opIx (mVar 6) (mC (.int 0))) (mVar 3)) (mOp2 opNotN (mOp2 opIx (mVar 6) (mC (.int 3))) (mC .non)))) (sRet (mC (.bl false))) sSkip) (sRet (mOr (mOp2 opIn (mVar 5) (mTup (mCons (mC (.str "up")) (mCons (mC (.str "rest")) mNil)))) (mOp2 opEq (mOp2 opIx (mVar 5) (mC (.int 1))) (mOp2 opIx (mVar 4) (mC (.int 0))))))))))))
def M_Going_can : FM := fnM 7 B_Going_can
def B_Town_step : SM := (sSeq (sAsg (mTup (mCons (mC (.str "take")) (mCons (mVar 1) (mCons (mVar 2) (mCons (mVar 3) mNil))))) (gNm 4)) (sSeq (sIf (mOr (mOp2 opEq (mVar 2) (mVar 1)) (mNot (mMethL "Going" "can" M_Going_can 2 (mMethL "Town" "going" M_Town_going 1 (mVar 0) mNil) (mCons (mVar 4) mNil)))) sBad sSkip) (sSeq (sIf (mAnd (mOp2 opEq (mOp1 (opFld ["Town"] "own_way") (mVar 0)) (mC (.str "wait"))) (mOp2 opLtX (mOp2 opIx (mOp1 (opFld ["Town"] "own_written") (mVar 0)) (mVar 1)) (mMethL "Town" "count_of" M_Town_count_of 2 (mVar 0) (mCons (mVar 1) mNil)))) sBad sSkip) (sSeq (sExp (mMt "list" opAppend (mOp1 (opFld ["Town"] "rows") (mVar 0)) (mCons (mTup (mCons (mVar 4) (mCons (mOp2 opAdd (mMethL "Town" "count_of" M_Town_count_of 2 (mVar 0) (mCons (mVar 1) mNil)) (mC (.int 1))) mNil))) mNil))) (sIf (mOp2 opNe (mOp1 (opFld ["Town"] "own_way") (mVar 0)) (mC (.str "wait"))) (sExp (mMethL "Town" "send_all" M_Town_send_all 2 (mVar 0) (mCons (mVar 1) mNil))) sSkip)))))
def M_Town_step : FM := fnM 5 B_Town_step
def B_Town_write : SM := (sSeq (sAugS opAddI (mOp1 (opFld ["Town"] "own_written") (mVar 0)) (mVar 1) (mC (.int 1))) (sIf (mOp2 opEq (mOp1 (opFld ["Town"] "own_way") (mVar 0)) (mC (.str "wait"))) (sExp (mMethL "Town" "send_all" M_Town_send_all 2 (mVar 0) (mCons (mVar 1) mNil))) sSkip))
def M_Town_write : FM := fnM 2 B_Town_write
def B_Town_back_by : SM := (sRet (mOpL opTuple (mCons (mLc (mItE (mVar 1)) (.tp [2, 3]) mYes (mOp2 opSub (mMethL "Town" "count_of" M_Town_count_of 2 (mVar 0) (mCons (mVar 2) mNil)) (mVar 3)) [2, 3]) mNil)))
def M_Town_back_by : FM := fnM 4 B_Town_back_by
def B_Town_cut_down : SM := (sSeq (sAsg (mOpL opList (mCons (mVar 2) mNil)) (gNm 3)) (sSeq (sAsg (mC (.bl true)) (gNm 4)) (sSeq (sWhile (mVar 4) (sSeq (sAsg (mC (.bl false)) (gNm 4)) (sLock (mOp1 (opFld ["Bearing"] "takers") (mVar 1)) (sFor (mItI (mOp1 (opFld ["Bearing"] "takers") (mVar 1))) (gTp 2 (gCn (gNm 5) (gCn (gTp 2 (gCn (gNm 6) (gCn (gNm 7) gNl))) gNl))) (sSeq (sAsg (mOp2 opIx (mOp1 (opFld ["Bearing"] "step_of") (mVar 1)) (mVar 5)) (gTp 2 (gCn (gNm 8) (gCn (gNm 9) gNl)))) (sIf (mAnd (mOp2 opLtX (mVar 6) (mOp1 (opFld ["Town"] "own_many") (mVar 0))) (mAnd (mOp2 opLeX (mVar 7) (mOp2 opIx (mVar 3) (mVar 6))) (mAnd (mOp2 opLtX (mVar 8) (mOp1 (opFld ["Town"] "own_many") (mVar 0))) (mOp2 opGtX (mVar 9) (mOp2 opIx (mVar 3) (mVar 8)))))) (sSeq (sAsg (mOp2 opSub (mVar 7) (mC (.int 1))) (gSb (mVar 3) (mVar 6))) (sAsg (mC (.bl true)) (gNm 4))) sSkip)))))) (sRet (mVar 3)))))
def M_Town_cut_down : FM := fnM 10 B_Town_cut_down
def B_Town_kept_by : SM := (sSeq (sAsg (mMethL "Town" "bearing" M_Town_bearing 1 (mVar 0) mNil) (gNm 3)) (sSeq (sAsg (mDNew true) (gNm 4)) (sSeq (sFor (mRng1 (mOp1 (opFld ["Town"] "own_many") (mVar 0))) (gNm 5) (sIf (mAnd (mVar 2) (mOp2 opNotIn (mVar 5) (mVar 1))) (sExp (mMt "dict" opUpdate (mVar 4) (mCons (mOp2 opIx (mOp1 (opFld ["Bearing"] "own_known") (mVar 3)) (mVar 5)) mNil))) sSkip)) (sSeq (sAsg (mLst mNil) (gNm 6)) (sSeq (sFor (mRng1 (mOp1 (opFld ["Town"] "own_many") (mVar 0))) (gNm 5) (sSeq (sAsg (mMethL "Town" "count_of" M_Town_count_of 2 (mVar 0) (mCons (mVar 5) mNil)) (gNm 7)) (sSeq (sIf (mOp2 opIn (mVar 5) (mVar 1)) (sSeq (sAsg (mOp2 opAdd (mOp2 opIx (mOp1 (opFld ["Town"] "own_written") (mVar 0)) (mVar 5)) (mC (.int 1))) (gNm 8)) (sSeq (sAsg (mLc (mRng2 (mVar 8) (mOp2 opAdd (mVar 7) (mC (.int 1)))) (.nm 10) (mOp2 opNotIn (mTup (mCons (mVar 5) (mCons (mVar 10) mNil))) (mVar 4)) (mVar 10) [10]) (gNm 9)) (sAsg (mOp2 opSub (mKw1 opMinD (mVar 9) (mOp2 opAdd (mVar 7) (mC (.int 1)))) (mC (.int 1))) (gNm 7)))) sSkip) (sExp (mMt "list" opAppend (mVar 6) (mCons (mVar 7) mNil)))))) (sRet (mMethL "Town" "cut_down" M_Town_cut_down 3 (mVar 0) (mCons (mVar 3) (mCons (mVar 6) mNil)))))))))
def M_Town_kept_by : FM := fnM 11 B_Town_kept_by
def B_Town_fall : SM := (sSeq (sAsg (mMethL "Town" "kept_by" M_Town_kept_by 3 (mVar 0) (mCons (mVar 1) (mCons (mOp2 opEq (mOp1 (opFld ["Town"] "own_way") (mVar 0)) (mC (.str "along"))) mNil))) (gNm 2)) (sSeq (sExp (mMt "list" opAppend (mOp1 (opFld ["Town"] "fall_rows") (mVar 0)) (mCons (mTup (mCons (mVar 1) (mCons (mMethL "Town" "back_by" M_Town_back_by 2 (mVar 0) (mCons (mVar 2) mNil)) mNil))) mNil))) (sSeq (sSetF ["Town"] "rows" (mVar 0) (mLockL (mOp1 (opFld ["Town"] "rows") (mVar 0)) (mLc (mItF (mOp1 (opFld ["Town"] "rows") (mVar 0))) (.tp [3, 4]) (mOr (mOp2 opEq (mOp2 opIx (mVar 3) (mC (.int 1))) (mOp1 (opFld ["Town"] "own_many") (mVar 0))) (mOp2 opLeX (mVar 4) (mOp2 opIx (mVar 2) (mOp2 opIx (mVar 3) (mC (.int 1)))))) (mTup (mCons (mVar 3) (mCons (mVar 4) mNil))) [3, 4]))) (sSetF ["Town"] "own_written" (mVar 0) (mLc (mItZ (mOp1 (opFld ["Town"] "own_written") (mVar 0)) (mVar 2)) (.tp [5, 6]) mYes (mOpL opMinL (mCons (mVar 5) (mCons (mVar 6) mNil))) [5, 6])))))
def M_Town_fall : FM := fnM 7 B_Town_fall
def B_Town_settled_steps : SM := (sRet (mMethL "Town" "kept_by" M_Town_kept_by 3 (mVar 0) (mCons (mRgA opTupRg (mOp1 (opFld ["Town"] "own_many") (mVar 0))) (mCons (mC (.bl false)) mNil))))
def M_Town_settled_steps : FM := fnM 1 B_Town_settled_steps
def B_Town_clear : SM := (sFor (mItE (mMethL "Town" "settled_steps" M_Town_settled_steps 1 (mVar 0) mNil)) (gTp 2 (gCn (gNm 1) (gCn (gNm 2) gNl))) (sSeq (sLockL (mOp1 (opFld ["Town"] "rows") (mVar 0)) (sAsg (mLc (mItF (mOp1 (opFld ["Town"] "rows") (mVar 0))) (.tp [4, 5]) (mAnd (mOp2 opEq (mVar 4) (mTup (mCons (mC (.str "keep")) (mCons (mVar 1) mNil)))) (mOp2 opLeX (mVar 5) (mVar 2))) (mVar 5) [4, 5]) (gNm 3))) (sAsg (mKw1 opMaxD (mVar 3) (mOp2 opIx (mOp1 (opFld ["Town"] "begun_from") (mVar 0)) (mVar 1))) (gSb (mOp1 (opFld ["Town"] "begun_from") (mVar 0)) (mVar 1)))))
def M_Town_clear : FM := fnM 6 B_Town_clear
def B_Town_do_form : SM := (sIf (mOp2 opEq (mVar 1) (mC (.str "put"))) (sExp (mMethL "Town" "put" M_Town_put 3 (mVar 0) (mCons (mOp2 opIx (mVar 2) (mC (.int 0))) (mCons (mOp2 opIx (mVar 2) (mC (.int 1))) mNil)))) (sIf (mOp2 opEq (mVar 1) (mC (.str "step"))) (sExp (mMethL "Town" "step" M_Town_step 4 (mVar 0) (mCons (mOp2 opIx (mVar 2) (mC (.int 0))) (mCons (mOp2 opIx (mVar 2) (mC (.int 1))) (mCons (mOp2 opIx (mVar 2) (mC (.int 2))) mNil))))) (sIf (mOp2 opEq (mVar 1) (mC (.str "write"))) (sSeq (sIf (mOp2 opEq (mOp2 opIx (mOp1 (opFld ["Town"] "own_written") (mVar 0)) (mOp2 opIx (mVar 2) (mC (.int 0)))) (mMethL "Town" "count_of" M_Town_count_of 2 (mVar 0) (mCons (mOp2 opIx (mVar 2) (mC (.int 0))) mNil))) sBad sSkip) (sExp (mMethL "Town" "write" M_Town_write 2 (mVar 0) (mCons (mOp2 opIx (mVar 2) (mC (.int 0))) mNil)))) (sIf (mOp2 opEq (mVar 1) (mC (.str "keep"))) (sSeq (sWhile (mOp2 opLtX (mOp2 opIx (mOp1 (opFld ["Town"] "own_written") (mVar 0)) (mOp2 opIx (mVar 2) (mC (.int 0)))) (mMethL "Town" "count_of" M_Town_count_of 2 (mVar 0) (mCons (mOp2 opIx (mVar 2) (mC (.int 0))) mNil))) (sExp (mMethL "Town" "write" M_Town_write 2 (mVar 0) (mCons (mOp2 opIx (mVar 2) (mC (.int 0))) mNil)))) (sExp (mMt "list" opAppend (mOp1 (opFld ["Town"] "rows") (mVar 0)) (mCons (mTup (mCons (mTup (mCons (mC (.str "keep")) (mCons (mOp2 opIx (mVar 2) (mC (.int 0))) mNil))) (mCons (mMethL "Town" "count_of" M_Town_count_of 2 (mVar 0) (mCons (mOp2 opIx (mVar 2) (mC (.int 0))) mNil)) mNil))) mNil)))) (sIf (mOp2 opEq (mVar 1) (mC (.str "fall"))) (sExp (mMethL "Town" "fall" M_Town_fall 2 (mVar 0) (mCons (mOp2 opIx (mVar 2) (mC (.int 0))) mNil))) (sExp (mMethL "Town" "clear" M_Town_clear 1 (mVar 0) mNil)))))))
def M_Town_do_form : FM := fnM 3 B_Town_do_form
def B_Town_twin : SM := (sSeq (sAsg (mMakeK "Town" M_Town_init 3 1 1 gd1_Town_init (mCons (mOp1 (opFld ["Town"] "own_tables") (mVar 0)) mNil) (mCons (mOp1 (opFld ["Town"] "own_way") (mVar 0)) mNil)) (gNm 1)) (sSeq (sExp (mMethL "Town" "take_over" M_Town_take_over 2 (mVar 1) (mCons (mVar 0) mNil))) (sRet (mVar 1))))
def M_Town_twin : FM := fnM 2 B_Town_twin
def B_Town_is_hand : SM := (sRet (mCallL M_is_within 3 (mCons (mVar 1) (mCons (mC (.int 0)) (mCons (mOp2 opSub (mOp1 (opFld ["Town"] "own_many") (mVar 0)) (mC (.int 1))) mNil)))))
def M_Town_is_hand : FM := fnM 2 B_Town_is_hand
def B_are_fallen : SM := (sSeq (sIf (mOr (mNot (mOp1 (opIsi "tuple") (mVar 1))) (mOr (mOp2 opEq (mVar 1) (mTup mNil)) (mNot (mOpL opAll (mCons (mLockL (mVar 1) (mLc (mItF (mVar 1)) (.nm 2) mYes (mCallL M_is_within 3 (mCons (mVar 2) (mCons (mC (.int 0)) (mCons (mOp2 opSub (mVar 0) (mC (.int 1))) mNil)))) [2])) mNil))))) (sRet (mC (.bl false))) sSkip) (sRet (mOpL opAll (mCons (mLc (mItZ (mVar 1) (mSl (mVar 1) (mPart (mC (.int 1))) mNoP)) (.tp [2, 3]) mYes (mOp2 opLtX (mVar 2) (mVar 3)) [2, 3]) mNil))))
def M_are_fallen : FM := fnM 4 B_are_fallen
def B_Town_is_form : SM := (sSeq (sIf (mOr (mNot (mOp1 (opIsi "tuple") (mVar 1))) (mOr (mOp2 opEq (mVar 1) (mTup mNil)) (mOr (mNot (mOp1 (opIsi "str") (mOp2 opIx (mVar 1) (mC (.int 0))))) (mKdIn tab_SIZES true (mOp2 opIx (mVar 1) (mC (.int 0))))))) (sRet (mC (.bl false))) sSkip) (sSeq (sIf (mOp2 opNe (mOpL opLen (mCons (mVar 1) mNil)) (mKdIx tab_SIZES (mOp2 opIx (mVar 1) (mC (.int 0))))) (sRet (mC (.bl false))) sSkip) (sSeq (sIf (mOp2 opEq (mOp2 opIx (mVar 1) (mC (.int 0))) (mC (.str "clear"))) (sRet (mC (.bl true))) sSkip) (sSeq (sIf (mOp2 opEq (mOp2 opIx (mVar 1) (mC (.int 0))) (mC (.str "fall"))) (sRet (mCallL M_are_fallen 2 (mCons (mOp1 (opFld ["Town"] "own_many") (mVar 0)) (mCons (mOp2 opIx (mVar 1) (mC (.int 1))) mNil)))) sSkip) (sSeq (sIf (mNot (mMethL "Town" "is_hand" M_Town_is_hand 2 (mVar 0) (mCons (mOp2 opIx (mVar 1) (mC (.int 1))) mNil))) (sRet (mC (.bl false))) sSkip) (sSeq (sIf (mOp2 opEq (mOp2 opIx (mVar 1) (mC (.int 0))) (mC (.str "put"))) (sRet (mCallL M_is_within 3 (mCons (mOp2 opIx (mVar 1) (mC (.int 2))) (mCons (mC (.int 0)) (mCons (mC (.int 999)) mNil))))) sSkip) (sRet (mOr (mOp2 opNe (mOp2 opIx (mVar 1) (mC (.int 0))) (mC (.str "step"))) (mAnd (mCallL M_is_within 3 (mCons (mOp2 opIx (mVar 1) (mC (.int 2))) (mCons (mC (.int 0)) (mCons (mOp1 (opFld ["Town"] "own_many") (mVar 0)) mNil)))) (mCallL M_is_within 3 (mCons (mOp2 opIx (mVar 1) (mC (.int 3))) (mCons (mC (.int 0)) (mCons (mC (.int 400)) mNil)))))))))))))
def M_Town_is_form : FM := fnM 2 B_Town_is_form
def B_Town_do : SM := (sSeq (sIf (mNot (mMethL "Town" "is_form" M_Town_is_form 2 (mVar 0) (mCons (mVar 1) mNil))) sBad sSkip) (sSeq (sAsg (mMethL "Town" "twin" M_Town_twin 1 (mVar 0) mNil) (gNm 2)) (sSeq (sExp (mMethL "Town" "do_form" M_Town_do_form 3 (mVar 2) (mCons (mOp2 opIx (mVar 1) (mC (.int 0))) (mCons (mSl (mVar 1) (mPart (mC (.int 1))) mNoP) mNil)))) (sSeq (sExp (mMethL "Town" "tell" M_Town_tell 1 (mVar 2) mNil)) (sSeq (sIf (mOp2 opGtX (mOpL opLen (mCons (mOp1 (opFld ["Town"] "rows") (mVar 2)) mNil)) (mC (.int 400))) sBad sSkip) (sSeq (sExp (mMethL "Town" "take_over" M_Town_take_over 2 (mVar 0) (mCons (mVar 2) mNil))) (sExp (mMt "list" opAppend (mOp1 (opFld ["Town"] "done") (mVar 0)) (mCons (mVar 1) mNil)))))))))
def M_Town_do : FM := fnM 3 B_Town_do
def B_Town_under_way : SM := (sRet (mOpL opSorted (mCons (mLc (mItI (mFrz (mOp1 (opFld ["Going"] "all_letters") (mMethL "Town" "going" M_Town_going 1 (mVar 0) mNil)))) (.tp [1, 2]) (mOp2 opIsN (mOp2 opIx (mVar 2) (mC (.int 3))) (mC .non)) (mVar 1) [1, 2]) mNil)))
def M_Town_under_way : FM := fnM 3 B_Town_under_way
def B_Town_told : SM := (sRet (mOpL opList (mCons (mOp1 (opFld ["Town"] "told_rows") (mVar 0)) mNil)))
def M_Town_told : FM := fnM 1 B_Town_told
def B_settled : SM := (sRet (mOpL opTuple (mCons (mMethL "Town" "settled_steps" M_Town_settled_steps 1 (mVar 0) mNil) mNil)))
def M_settled : FM := fnM 1 B_settled
def B_Town_falls : SM := (sRet (mOpL opList (mCons (mOp1 (opFld ["Town"] "fall_rows") (mVar 0)) mNil)))
def M_Town_falls : FM := fnM 1 B_Town_falls
def B_lost_by : SM := (sSeq (sAsg (mMethL "Town" "twin" M_Town_twin 1 (mVar 0) mNil) (gNm 2)) (sSeq (sExp (mMethL "Town" "do" M_Town_do 2 (mVar 2) (mCons (mTup (mCons (mC (.str "fall")) (mCons (mVar 1) mNil))) mNil))) (sRet (mOp2 opIx (mOp2 opIx (mMethL "Town" "falls" M_Town_falls 1 (mVar 2) mNil) (mOp1 opNeg (mC (.int 1)))) (mC (.int 1))))))
def M_lost_by : FM := fnM 3 B_lost_by
def T__law_free_right_0 : SM := (sAsg (mCallL M__law_row_of 1 (mCons (mC (.str "free")) mNil)) (gNm 1))
def T__law_free_right_1 : SM := (sFor (mItF (mFrzL (mLst (mCons (mTup (mCons (mC (.str "put")) (mCons (mC (.int 0)) (mCons (mVar 0) mNil)))) (mCons (mTup (mCons (mC (.str "step")) (mCons (mC (.int 0)) (mCons (mC (.int 3)) (mCons (mC (.int 0)) mNil))))) (mCons (mTup (mCons (mC (.str "step")) (mCons (mC (.int 1)) (mCons (mC (.int 0)) (mCons (mC (.int 0)) mNil))))) (mCons (mTup (mCons (mC (.str "step")) (mCons (mC (.int 2)) (mCons (mC (.int 1)) (mCons (mC (.int 0)) mNil))))) mNil))))))) (gNm 2) (sExp (mMethL "Town" "do" M_Town_do 2 (mVar 1) (mCons (mVar 2) mNil))))
def T__law_free_right_2 : SM := (sIf (mOr (mOp2 opNe (mMethL "Town" "under_way" M_Town_under_way 1 (mVar 1) mNil) (mLst (mCons (mTup (mCons (mC (.int 2)) (mCons (mC (.int 0)) mNil))) mNil))) (mOr (mOp2 opNe (mMethL "Town" "told" M_Town_told 1 (mVar 1) mNil) (mLst mNil)) (mOp2 opNe (mCallL M_settled 1 (mCons (mVar 1) mNil)) (mTup (mCons (mC (.int 0)) (mCons (mC (.int 0)) (mCons (mC (.int 0)) mNil))))))) (sRet (mC (.bl false))) sSkip)
def T__law_free_right_3 : SM := (sIf (mOr (mOp2 opNe (mCallL M_lost_by 2 (mCons (mVar 1) (mCons (mTup (mCons (mC (.int 1)) mNil)) mNil))) (mTup (mCons (mC (.int 0)) (mCons (mC (.int 1)) (mCons (mC (.int 1)) mNil))))) (mOr (mOp2 opNe (mCallL M_lost_by 2 (mCons (mVar 1) (mCons (mTup (mCons (mC (.int 2)) mNil)) mNil))) (mTup (mCons (mC (.int 0)) (mCons (mC (.int 0)) (mCons (mC (.int 1)) mNil))))) (mOp2 opNe (mCallL M_lost_by 2 (mCons (mVar 1) (mCons (mTup (mCons (mC (.int 0)) (mCons (mC (.int 2)) mNil))) mNil))) (mTup (mCons (mC (.int 1)) (mCons (mC (.int 1)) (mCons (mC (.int 1)) mNil))))))) (sRet (mC (.bl false))) sSkip)
def T__law_free_right_4 : SM := (sFor (mItF (mFrzL (mLst (mCons (mC (.int 2)) (mCons (mC (.int 1)) mNil))))) (gNm 3) (sExp (mMethL "Town" "do" M_Town_do 2 (mVar 1) (mCons (mTup (mCons (mC (.str "write")) (mCons (mVar 3) mNil))) mNil))))
def T__law_free_right_5 : SM := (sIf (mOr (mOp2 opNe (mCallL M_lost_by 2 (mCons (mVar 1) (mCons (mTup (mCons (mC (.int 0)) mNil)) mNil))) (mTup (mCons (mC (.int 1)) (mCons (mC (.int 1)) (mCons (mC (.int 1)) mNil))))) (mOr (mOp2 opNe (mCallL M_lost_by 2 (mCons (mVar 1) (mCons (mTup (mCons (mC (.int 1)) (mCons (mC (.int 2)) mNil))) mNil))) (mTup (mCons (mC (.int 0)) (mCons (mC (.int 0)) (mCons (mC (.int 0)) mNil))))) (mOp2 opNe (mMethL "Town" "told" M_Town_told 1 (mVar 1) mNil) (mLst mNil)))) (sRet (mC (.bl false))) sSkip)
def T__law_free_right_6 : SM := (sExp (mMethL "Town" "do" M_Town_do 2 (mVar 1) (mCons (mTup (mCons (mC (.str "write")) (mCons (mC (.int 0)) mNil))) mNil)))
def T__law_free_right_7 : SM := (sAsg (mOp2 opMod (mOp2 opAdd (mVar 0) (mC (.int 1))) (mC (.int 1000))) (gNm 4))
def T__law_free_right_8 : SM := (sAsg (mOp2 opMod (mOp2 opAdd (mVar 4) (mC (.int 1))) (mC (.int 1000))) (gNm 5))
def T__law_free_right_9 : SM := (sIf (mOr (mOp2 opNe (mMethL "Town" "told" M_Town_told 1 (mVar 1) mNil) (mLst (mCons (mTup (mCons (mC (.int 2)) (mCons (mC (.int 0)) (mCons (mOp2 opMod (mOp2 opAdd (mVar 5) (mC (.int 1))) (mC (.int 1000))) mNil)))) mNil))) (mOp2 opNe (mCallL M_lost_by 2 (mCons (mVar 1) (mCons (mTup (mCons (mC (.int 0)) (mCons (mC (.int 1)) (mCons (mC (.int 2)) mNil)))) mNil))) (mTup (mCons (mC (.int 0)) (mCons (mC (.int 0)) (mCons (mC (.int 0)) mNil)))))) (sRet (mC (.bl false))) sSkip)
def T__law_free_right_10 : SM := (sRet (mAnd (mOp2 opEq (mMethL "Town" "under_way" M_Town_under_way 1 (mVar 1) mNil) (mLst mNil)) (mOp2 opEq (mCallL M_settled 1 (mCons (mVar 1) mNil)) (mTup (mCons (mC (.int 1)) (mCons (mC (.int 1)) (mCons (mC (.int 1)) mNil)))))))
def B__law_free_right : SM := (sSeq T__law_free_right_0 (sSeq T__law_free_right_1 (sSeq T__law_free_right_2 (sSeq T__law_free_right_3 (sSeq T__law_free_right_4 (sSeq T__law_free_right_5 (sSeq T__law_free_right_6 (sSeq T__law_free_right_7 (sSeq T__law_free_right_8 (sSeq T__law_free_right_9 T__law_free_right_10))))))))))
def M__law_free_right : FM := fnM 6 B__law_free_right
def B_Town_look_at_hand : SM := (sIf (mNot (mMethL "Town" "is_hand" M_Town_is_hand 2 (mVar 0) (mCons (mVar 1) mNil))) sBad sSkip)
def M_Town_look_at_hand : FM := fnM 2 B_Town_look_at_hand
def B_Town_steps : SM := (sSeq (sExp (mMethL "Town" "look_at_hand" M_Town_look_at_hand 2 (mVar 0) (mCons (mVar 1) mNil))) (sRet (mMethL "Town" "count_of" M_Town_count_of 2 (mVar 0) (mCons (mVar 1) mNil))))
def M_Town_steps : FM := fnM 2 B_Town_steps
def B_Town_written : SM := (sSeq (sExp (mMethL "Town" "look_at_hand" M_Town_look_at_hand 2 (mVar 0) (mCons (mVar 1) mNil))) (sRet (mOp2 opIx (mOp1 (opFld ["Town"] "own_written") (mVar 0)) (mVar 1))))
def M_Town_written : FM := fnM 2 B_Town_written
def T__law_wait_right_0 : SM := (sAsg (mCallL M__law_row_of 1 (mCons (mC (.str "wait")) mNil)) (gNm 1))
def T__law_wait_right_1 : SM := (sFor (mItF (mFrzL (mLst (mCons (mTup (mCons (mC (.str "put")) (mCons (mC (.int 0)) (mCons (mVar 0) mNil)))) (mCons (mTup (mCons (mC (.str "step")) (mCons (mC (.int 0)) (mCons (mC (.int 3)) (mCons (mC (.int 0)) mNil))))) mNil))))) (gNm 2) (sExp (mMethL "Town" "do" M_Town_do 2 (mVar 1) (mCons (mVar 2) mNil))))
def T__law_wait_right_2 : SM := (sIf (mOr (mOp2 opNe (mMethL "Town" "under_way" M_Town_under_way 1 (mVar 1) mNil) (mLst mNil)) (mOr (mOp2 opNe (mCallL M_lost_by 2 (mCons (mVar 1) (mCons (mTup (mCons (mC (.int 0)) mNil)) mNil))) (mTup (mCons (mC (.int 1)) (mCons (mC (.int 0)) (mCons (mC (.int 0)) mNil))))) (mOp2 opNe (mCallL M_lost_by 2 (mCons (mVar 1) (mCons (mTup (mCons (mC (.int 1)) (mCons (mC (.int 2)) mNil))) mNil))) (mTup (mCons (mC (.int 0)) (mCons (mC (.int 0)) (mCons (mC (.int 0)) mNil))))))) (sRet (mC (.bl false))) sSkip)
def T__law_wait_right_3 : SM := (sExp (mMethL "Town" "do" M_Town_do 2 (mVar 1) (mCons (mTup (mCons (mC (.str "fall")) (mCons (mTup (mCons (mC (.int 0)) mNil)) mNil))) mNil)))
def T__law_wait_right_4 : SM := (sIf (mOr (mOp2 opNe (mMethL "Town" "under_way" M_Town_under_way 1 (mVar 1) mNil) (mLst (mCons (mTup (mCons (mC (.int 3)) (mCons (mC (.int 0)) mNil))) mNil))) (mOr (mOp2 opNe (mMethL "Town" "steps" M_Town_steps 2 (mVar 1) (mCons (mC (.int 0)) mNil)) (mC (.int 0))) (mOp2 opNe (mMethL "Town" "falls" M_Town_falls 1 (mVar 1) mNil) (mLst (mCons (mTup (mCons (mTup (mCons (mC (.int 0)) mNil)) (mCons (mTup (mCons (mC (.int 1)) (mCons (mC (.int 0)) (mCons (mC (.int 0)) mNil)))) mNil))) mNil))))) (sRet (mC (.bl false))) sSkip)
def T__law_wait_right_5 : SM := (sFor (mItF (mFrzL (mLst (mCons (mTup (mCons (mC (.str "step")) (mCons (mC (.int 0)) (mCons (mC (.int 3)) (mCons (mC (.int 0)) mNil))))) (mCons (mTup (mCons (mC (.str "write")) (mCons (mC (.int 0)) mNil))) (mCons (mTup (mCons (mC (.str "step")) (mCons (mC (.int 1)) (mCons (mC (.int 0)) (mCons (mC (.int 0)) mNil))))) (mCons (mTup (mCons (mC (.str "fall")) (mCons (mTup (mCons (mC (.int 0)) (mCons (mC (.int 1)) mNil))) mNil))) mNil))))))) (gNm 2) (sExp (mMethL "Town" "do" M_Town_do 2 (mVar 1) (mCons (mVar 2) mNil))))
def T__law_wait_right_6 : SM := (sRet (mAnd (mOp2 opEq (mOp2 opIx (mMethL "Town" "falls" M_Town_falls 1 (mVar 1) mNil) (mOp1 opNeg (mC (.int 1)))) (mTup (mCons (mTup (mCons (mC (.int 0)) (mCons (mC (.int 1)) mNil))) (mCons (mTup (mCons (mC (.int 0)) (mCons (mC (.int 1)) (mCons (mC (.int 0)) mNil)))) mNil)))) (mAnd (mOp2 opEq (mMethL "Town" "under_way" M_Town_under_way 1 (mVar 1) mNil) (mLst (mCons (mTup (mCons (mC (.int 0)) (mCons (mC (.int 0)) mNil))) mNil))) (mOp2 opEq (mMethL "Town" "written" M_Town_written 2 (mVar 1) (mCons (mC (.int 0)) mNil)) (mC (.int 1))))))
def B__law_wait_right : SM := (sSeq T__law_wait_right_0 (sSeq T__law_wait_right_1 (sSeq T__law_wait_right_2 (sSeq T__law_wait_right_3 (sSeq T__law_wait_right_4 (sSeq T__law_wait_right_5 T__law_wait_right_6))))))
def M__law_wait_right : FM := fnM 3 B__law_wait_right
def B_Town_known : SM := (sSeq (sExp (mMethL "Town" "look_at_hand" M_Town_look_at_hand 2 (mVar 0) (mCons (mVar 1) mNil))) (sRet (mIf (mOp2 opEq (mOp1 (opFld ["Town"] "own_way") (mVar 0)) (mC (.str "along"))) (mOpL opSorted (mCons (mOp2 opIx (mOp1 (opFld ["Bearing"] "own_known") (mMethL "Town" "bearing" M_Town_bearing 1 (mVar 0) mNil)) (mVar 1)) mNil)) (mLst mNil))))
def M_Town_known : FM := fnM 2 B_Town_known
def T__law_along_right_0 : SM := (sAsg (mCallL M__law_row_of 1 (mCons (mC (.str "along")) mNil)) (gNm 1))
def T__law_along_right_1 : SM := (sFor (mItF (mFrzL (mLst (mCons (mTup (mCons (mC (.str "put")) (mCons (mC (.int 0)) (mCons (mVar 0) mNil)))) (mCons (mTup (mCons (mC (.str "step")) (mCons (mC (.int 0)) (mCons (mC (.int 3)) (mCons (mC (.int 0)) mNil))))) (mCons (mTup (mCons (mC (.str "step")) (mCons (mC (.int 1)) (mCons (mC (.int 0)) (mCons (mC (.int 0)) mNil))))) (mCons (mTup (mCons (mC (.str "put")) (mCons (mC (.int 1)) (mCons (mC (.int 5)) mNil)))) (mCons (mTup (mCons (mC (.str "step")) (mCons (mC (.int 1)) (mCons (mC (.int 3)) (mCons (mC (.int 1)) mNil))))) mNil)))))))) (gNm 2) (sExp (mMethL "Town" "do" M_Town_do 2 (mVar 1) (mCons (mVar 2) mNil))))
def T__law_along_right_2 : SM := (sExp (mMethL "Town" "do" M_Town_do 2 (mVar 1) (mCons (mTup (mCons (mC (.str "step")) (mCons (mC (.int 2)) (mCons (mC (.int 1)) (mCons (mC (.int 0)) mNil))))) mNil)))
def T__law_along_right_3 : SM := (sIf (mOr (mOp2 opNe (mMethL "Town" "known" M_Town_known 2 (mVar 1) (mCons (mC (.int 2)) mNil)) (mLst (mCons (mTup (mCons (mC (.int 0)) (mCons (mC (.int 1)) mNil))) (mCons (mTup (mCons (mC (.int 1)) (mCons (mC (.int 1)) mNil))) (mCons (mTup (mCons (mC (.int 2)) (mCons (mC (.int 1)) mNil))) mNil))))) (mOp2 opNe (mMethL "Town" "known" M_Town_known 2 (mVar 1) (mCons (mC (.int 1)) mNil)) (mLst (mCons (mTup (mCons (mC (.int 0)) (mCons (mC (.int 1)) mNil))) (mCons (mTup (mCons (mC (.int 1)) (mCons (mC (.int 1)) mNil))) (mCons (mTup (mCons (mC (.int 1)) (mCons (mC (.int 2)) mNil))) mNil)))))) (sRet (mC (.bl false))) sSkip)
def T__law_along_right_4 : SM := (sIf (mOp2 opNe (mMethL "Town" "known" M_Town_known 2 (mVar 1) (mCons (mC (.int 0)) mNil)) (mLst (mCons (mTup (mCons (mC (.int 0)) (mCons (mC (.int 1)) mNil))) mNil))) (sRet (mC (.bl false))) sSkip)
def T__law_along_right_5 : SM := (sIf (mOr (mOp2 opNe (mCallL M_lost_by 2 (mCons (mVar 1) (mCons (mTup (mCons (mC (.int 1)) mNil)) mNil))) (mTup (mCons (mC (.int 0)) (mCons (mC (.int 1)) (mCons (mC (.int 0)) mNil))))) (mOr (mOp2 opNe (mCallL M_lost_by 2 (mCons (mVar 1) (mCons (mTup (mCons (mC (.int 0)) (mCons (mC (.int 1)) mNil))) mNil))) (mTup (mCons (mC (.int 0)) (mCons (mC (.int 1)) (mCons (mC (.int 0)) mNil))))) (mOp2 opNe (mCallL M_lost_by 2 (mCons (mVar 1) (mCons (mTup (mCons (mC (.int 1)) (mCons (mC (.int 2)) mNil))) mNil))) (mTup (mCons (mC (.int 0)) (mCons (mC (.int 2)) (mCons (mC (.int 1)) mNil))))))) (sRet (mC (.bl false))) sSkip)
def T__law_along_right_6 : SM := (sExp (mMethL "Town" "do" M_Town_do 2 (mVar 1) (mCons (mTup (mCons (mC (.str "fall")) (mCons (mTup (mCons (mC (.int 0)) (mCons (mC (.int 1)) mNil))) mNil))) mNil)))
def T__law_along_right_7 : SM := (sIf (mOr (mOp2 opNe (mMethL "Town" "steps" M_Town_steps 2 (mVar 1) (mCons (mC (.int 1)) mNil)) (mC (.int 1))) (mOr (mOp2 opNe (mMethL "Town" "written" M_Town_written 2 (mVar 1) (mCons (mC (.int 1)) mNil)) (mC (.int 0))) (mOp2 opNe (mMethL "Town" "under_way" M_Town_under_way 1 (mVar 1) mNil) (mLst (mCons (mTup (mCons (mC (.int 2)) (mCons (mC (.int 0)) mNil))) (mCons (mTup (mCons (mC (.int 3)) (mCons (mC (.int 1)) mNil))) mNil)))))) (sRet (mC (.bl false))) sSkip)
def T__law_along_right_8 : SM := (sExp (mMethL "Town" "do" M_Town_do 2 (mVar 1) (mCons (mTup (mCons (mC (.str "fall")) (mCons (mTup (mCons (mC (.int 2)) mNil)) mNil))) mNil)))
def T__law_along_right_9 : SM := (sRet (mAnd (mOp2 opEq (mOp2 opIx (mMethL "Town" "falls" M_Town_falls 1 (mVar 1) mNil) (mOp1 opNeg (mC (.int 1)))) (mTup (mCons (mTup (mCons (mC (.int 2)) mNil)) (mCons (mTup (mCons (mC (.int 0)) (mCons (mC (.int 0)) (mCons (mC (.int 1)) mNil)))) mNil)))) (mOp2 opEq (mMethL "Town" "under_way" M_Town_under_way 1 (mVar 1) mNil) (mLst (mCons (mTup (mCons (mC (.int 1)) (mCons (mC (.int 0)) mNil))) (mCons (mTup (mCons (mC (.int 3)) (mCons (mC (.int 1)) mNil))) mNil))))))
def B__law_along_right : SM := (sSeq T__law_along_right_0 (sSeq T__law_along_right_1 (sSeq T__law_along_right_2 (sSeq T__law_along_right_3 (sSeq T__law_along_right_4 (sSeq T__law_along_right_5 (sSeq T__law_along_right_6 (sSeq T__law_along_right_7 (sSeq T__law_along_right_8 T__law_along_right_9)))))))))
def M__law_along_right : FM := fnM 3 B__law_along_right
def T__law_take_0 : SM := (sIf (mOp2 opGtX (mOp2 opIx (mVar 0) (mC (.int 0))) (mC (.int 0))) (sSeq (sAsg (mOp2 opMod (mOp2 opIx (mVar 0) (mC (.int 0))) (mVar 1)) (gNm 2)) (sSeq (sAsg (mOp2 opFdiv (mOp2 opIx (mVar 0) (mC (.int 0))) (mVar 1)) (gSb (mVar 0) (mC (.int 0)))) (sRet (mVar 2)))) sSkip)
def T__law_take_1 : SM := (sAsg (mOp2 opMod (mOp2 opAdd (mOp2 opMul (mOp2 opIx (mVar 0) (mC (.int 1))) (mC (.int 40692))) (mC (.int 3791))) (mC (.int 2147483399))) (gSb (mVar 0) (mC (.int 1))))
def T__law_take_2 : SM := (sRet (mOp2 opMod (mOp2 opFdiv (mOp2 opMod (mOp2 opMul (mOp2 opIx (mVar 0) (mC (.int 1))) (mOp2 opIx (mVar 0) (mC (.int 1)))) (mC (.int 2147483629))) (mC (.int 64))) (mVar 1)))
def B__law_take : SM := (sSeq T__law_take_0 (sSeq T__law_take_1 T__law_take_2))
def M__law_take : FM := fnM 3 B__law_take
def T__law_pool_0 : SM := (sAsg (mC (.int 0)) (gNm 2))
def T__law_pool_1 : SM := (sIf (mOp2 opLtX (mVar 1) (mOpL opLen (mCons (mVar 0) mNil))) (sAsg (mOpL opAbs (mCons (mOp2 opIx (mVar 0) (mVar 1)) mNil)) (gNm 2)) sSkip)
def T__law_pool_2 : SM := (sAsg (mOp2 opMod (mOp2 opMul (mOp2 opAdd (mOp2 opAdd (mOp2 opMod (mVar 2) (mC (.int 2147483587))) (mOp2 opMul (mC (.int 4409)) (mVar 1))) (mC (.int 23))) (mC (.int 48271))) (mC (.int 2147483647))) (gNm 3))
def T__law_pool_3 : SM := (sRet (mLst (mCons (mOp2 opMul (mVar 2) (mOpL opInt (mCons (mOp2 opGeX (mVar 2) (mOp2 opPow (mC (.int 10)) (mC (.int 18)))) mNil))) (mCons (mVar 3) mNil))))
def B__law_pool : SM := (sSeq T__law_pool_0 (sSeq T__law_pool_1 (sSeq T__law_pool_2 T__law_pool_3)))
def M__law_pool : FM := fnM 4 B__law_pool
def B_law : SM := (sSeq (sAsg (mCallL M__law_pool 2 (mCons (mVar 0) (mCons (mC (.int 0)) mNil))) (gNm 1)) (sSeq (sAsg (mCallL M__law_take 2 (mCons (mVar 1) (mCons (mC (.int 1000)) mNil))) (gNm 2)) (sRet (mAnd (mCallL M__law_free_right 1 (mCons (mVar 2) mNil)) (mAnd (mCallL M__law_wait_right 1 (mCons (mVar 2) mNil)) (mCallL M__law_along_right 1 (mCons (mVar 2) mNil)))))))
def M_law : FM := fnM 3 B_law
/-! ### the text -/
abbrev s_is_whole : Stmt := top 13
abbrev s_is_within : Stmt := top 14
abbrev s_are_targets : Stmt := top 26
abbrev s_are_tables : Stmt := top 27
abbrev s_Town_init : Stmt := inClass (top 30) 0
abbrev s__law_row_of : Stmt := top 37
abbrev s_Town_take_over : Stmt := inClass (top 30) 29
abbrev s_Town_first_untold : Stmt := inClass (top 30) 13
abbrev s_taken_worth : Stmt := top 15
abbrev s_Going_do : Stmt := inClass (top 16) 2
abbrev s_Going_init : Stmt := inClass (top 16) 0
abbrev s_Town_going : Stmt := inClass (top 30) 1
abbrev s_Bearing_init : Stmt := inClass (top 29) 0
abbrev s_Town_bearing : Stmt := inClass (top 30) 2
abbrev s_Town_tell : Stmt := inClass (top 30) 12
abbrev s_Town_put : Stmt := inClass (top 30) 8
abbrev s_Town_count_of : Stmt := inClass (top 30) 3
abbrev s_Town_send_all : Stmt := inClass (top 30) 10
abbrev s_Going_can : Stmt := inClass (top 16) 1
abbrev s_Town_step : Stmt := inClass (top 30) 9
abbrev s_Town_write : Stmt := inClass (top 30) 11
abbrev s_Town_back_by : Stmt := inClass (top 30) 16
abbrev s_Town_cut_down : Stmt := inClass (top 30) 15
abbrev s_Town_kept_by : Stmt := inClass (top 30) 14
abbrev s_Town_fall : Stmt := inClass (top 30) 17
abbrev s_Town_settled_steps : Stmt := inClass (top 30) 18
abbrev s_Town_clear : Stmt := inClass (top 30) 19
abbrev s_Town_do_form : Stmt := inClass (top 30) 7
abbrev s_Town_twin : Stmt := inClass (top 30) 30
abbrev s_Town_is_hand : Stmt := inClass (top 30) 6
abbrev s_are_fallen : Stmt := top 28
abbrev s_Town_is_form : Stmt := inClass (top 30) 5
abbrev s_Town_do : Stmt := inClass (top 30) 4
abbrev s_Town_under_way : Stmt := inClass (top 30) 21
abbrev s_Town_told : Stmt := inClass (top 30) 27
abbrev s_settled : Stmt := top 32
abbrev s_Town_falls : Stmt := inClass (top 30) 24
abbrev s_lost_by : Stmt := top 33
abbrev s__law_free_right : Stmt := top 38
abbrev s_Town_look_at_hand : Stmt := inClass (top 30) 22
abbrev s_Town_steps : Stmt := inClass (top 30) 25
abbrev s_Town_written : Stmt := inClass (top 30) 26
abbrev s__law_wait_right : Stmt := top 39
abbrev s_Town_known : Stmt := inClass (top 30) 23
abbrev s__law_along_right : Stmt := top 40
abbrev s__law_take : Stmt := top 36
abbrev s__law_pool : Stmt := top 35
abbrev s_law : Stmt := top 41
theorem sc_is_whole : FnScope ["thing"] ["thing"] (defScope s_is_whole) := ⟨rfl, rfl, rfl, by decide +kernel, rfl, by decide +kernel, by decide +kernel⟩
theorem sc_is_within : FnScope ["thing", "least", "most"] ["thing", "least", "most"] (defScope s_is_within) := ⟨rfl, rfl, rfl, by decide +kernel, rfl, by decide +kernel, by decide +kernel⟩
theorem sc_are_targets : FnScope ["many", "hand", "thing", "one"] ["many", "hand", "thing"] (defScope s_are_targets) := ⟨rfl, rfl, rfl, by decide +kernel, rfl, by decide +kernel, by decide +kernel⟩
theorem sc_are_tables : FnScope ["thing", "hand", "own", "one"] ["thing"] (defScope s_are_tables) := ⟨rfl, rfl, rfl, by decide +kernel, rfl, by decide +kernel, by decide +kernel⟩
theorem sc_Town_init : FnScope ["self", "tables", "way"] ["self", "tables", "way"] (defScope s_Town_init) := ⟨rfl, rfl, rfl, by decide +kernel, rfl, by decide +kernel, by decide +kernel⟩
theorem sc__law_row_of : FnScope ["_law_kind"] ["_law_kind"] (defScope s__law_row_of) := ⟨rfl, rfl, rfl, by decide +kernel, rfl, by decide +kernel, by decide +kernel⟩
theorem sc_Town_take_over : FnScope ["self", "other"] ["self", "other"] (defScope s_Town_take_over) := ⟨rfl, rfl, rfl, by decide +kernel, rfl, by decide +kernel, by decide +kernel⟩
theorem sc_Town_first_untold : FnScope ["self", "bearing", "hand", "step", "written", "going", "letter", "own", "other", "number"] ["self", "bearing", "hand", "step", "written", "going"] (defScope s_Town_first_untold) := ⟨rfl, rfl, rfl, by decide +kernel, rfl, by decide +kernel, by decide +kernel⟩
theorem sc_taken_worth : FnScope ["worth", "letter"] ["worth", "letter"] (defScope s_taken_worth) := ⟨rfl, rfl, rfl, by decide +kernel, rfl, by decide +kernel, by decide +kernel⟩
theorem sc_Going_do : FnScope ["self", "deed", "word", "hand", "rest", "here", "to", "worth", "ahead", "taken"] ["self", "deed"] (defScope s_Going_do) := ⟨rfl, rfl, rfl, by decide +kernel, rfl, by decide +kernel, by decide +kernel⟩
theorem sc_Going_init : FnScope ["self", "many", "hand"] ["self", "many"] (defScope s_Going_init) := ⟨rfl, rfl, rfl, by decide +kernel, rfl, by decide +kernel, by decide +kernel⟩
theorem sc_Town_going : FnScope ["self", "found", "deed", "step"] ["self"] (defScope s_Town_going) := ⟨rfl, rfl, rfl, by decide +kernel, rfl, by decide +kernel, by decide +kernel⟩
theorem sc_Bearing_init : FnScope ["self", "many", "rows", "sent", "deed", "step", "word", "hand", "rest"] ["self", "many", "rows"] (defScope s_Bearing_init) := ⟨rfl, rfl, rfl, by decide +kernel, rfl, by decide +kernel, by decide +kernel⟩
theorem sc_Town_bearing : FnScope ["self"] ["self"] (defScope s_Town_bearing) := ⟨rfl, rfl, rfl, by decide +kernel, rfl, by decide +kernel, by decide +kernel⟩
theorem sc_Town_tell : FnScope ["self", "bearing", "written", "going", "deed", "step", "letter"] ["self"] (defScope s_Town_tell) := ⟨rfl, rfl, rfl, by decide +kernel, rfl, by decide +kernel, by decide +kernel⟩
theorem sc_Town_put : FnScope ["self", "hand", "worth"] ["self", "hand", "worth"] (defScope s_Town_put) := ⟨rfl, rfl, rfl, by decide +kernel, rfl, by decide +kernel, by decide +kernel⟩
theorem sc_Town_count_of : FnScope ["self", "hand", "deed", "step"] ["self", "hand"] (defScope s_Town_count_of) := ⟨rfl, rfl, rfl, by decide +kernel, rfl, by decide +kernel, by decide +kernel⟩
theorem sc_Town_send_all : FnScope ["self", "hand", "own", "targets", "to"] ["self", "hand"] (defScope s_Town_send_all) := ⟨rfl, rfl, rfl, by decide +kernel, rfl, by decide +kernel, by decide +kernel⟩
theorem sc_Going_can : FnScope ["self", "deed", "word", "hand", "rest", "mood", "letter"] ["self", "deed"] (defScope s_Going_can) := ⟨rfl, rfl, rfl, by decide +kernel, rfl, by decide +kernel, by decide +kernel⟩
theorem sc_Town_step : FnScope ["self", "hand", "other", "number", "deed"] ["self", "hand", "other", "number"] (defScope s_Town_step) := ⟨rfl, rfl, rfl, by decide +kernel, rfl, by decide +kernel, by decide +kernel⟩
theorem sc_Town_write : FnScope ["self", "hand"] ["self", "hand"] (defScope s_Town_write) := ⟨rfl, rfl, rfl, by decide +kernel, rfl, by decide +kernel, by decide +kernel⟩
theorem sc_Town_back_by : FnScope ["self", "kept", "hand", "many"] ["self", "kept"] (defScope s_Town_back_by) := ⟨rfl, rfl, rfl, by decide +kernel, rfl, by decide +kernel, by decide +kernel⟩
theorem sc_Town_cut_down : FnScope ["self", "bearing", "most", "found", "is_new", "letter", "hand", "step", "other", "number"] ["self", "bearing", "most"] (defScope s_Town_cut_down) := ⟨rfl, rfl, rfl, by decide +kernel, rfl, by decide +kernel, by decide +kernel⟩
theorem sc_Town_kept_by : FnScope ["self", "fallen", "knowing", "bearing", "known", "hand", "found", "many", "first", "some", "step"] ["self", "fallen", "knowing"] (defScope s_Town_kept_by) := ⟨rfl, rfl, rfl, by decide +kernel, rfl, by decide +kernel, by decide +kernel⟩
theorem sc_Town_fall : FnScope ["self", "fallen", "kept", "deed", "step", "own", "many"] ["self", "fallen"] (defScope s_Town_fall) := ⟨rfl, rfl, rfl, by decide +kernel, rfl, by decide +kernel, by decide +kernel⟩
theorem sc_Town_settled_steps : FnScope ["self"] ["self"] (defScope s_Town_settled_steps) := ⟨rfl, rfl, rfl, by decide +kernel, rfl, by decide +kernel, by decide +kernel⟩
theorem sc_Town_clear : FnScope ["self", "hand", "many", "some", "deed", "step"] ["self"] (defScope s_Town_clear) := ⟨rfl, rfl, rfl, by decide +kernel, rfl, by decide +kernel, by decide +kernel⟩
theorem sc_Town_do_form : FnScope ["self", "word", "rest"] ["self", "word", "rest"] (defScope s_Town_do_form) := ⟨rfl, rfl, rfl, by decide +kernel, rfl, by decide +kernel, by decide +kernel⟩
theorem sc_Town_twin : FnScope ["self", "found"] ["self"] (defScope s_Town_twin) := ⟨rfl, rfl, rfl, by decide +kernel, rfl, by decide +kernel, by decide +kernel⟩
theorem sc_Town_is_hand : FnScope ["self", "thing"] ["self", "thing"] (defScope s_Town_is_hand) := ⟨rfl, rfl, rfl, by decide +kernel, rfl, by decide +kernel, by decide +kernel⟩
theorem sc_are_fallen : FnScope ["many", "thing", "one", "other"] ["many", "thing"] (defScope s_are_fallen) := ⟨rfl, rfl, rfl, by decide +kernel, rfl, by decide +kernel, by decide +kernel⟩
theorem sc_Town_is_form : FnScope ["self", "deed"] ["self", "deed"] (defScope s_Town_is_form) := ⟨rfl, rfl, rfl, by decide +kernel, rfl, by decide +kernel, by decide +kernel⟩
theorem sc_Town_do : FnScope ["self", "deed", "later"] ["self", "deed"] (defScope s_Town_do) := ⟨rfl, rfl, rfl, by decide +kernel, rfl, by decide +kernel, by decide +kernel⟩
theorem sc_Town_under_way : FnScope ["self", "letter", "own"] ["self"] (defScope s_Town_under_way) := ⟨rfl, rfl, rfl, by decide +kernel, rfl, by decide +kernel, by decide +kernel⟩
theorem sc_Town_told : FnScope ["self"] ["self"] (defScope s_Town_told) := ⟨rfl, rfl, rfl, by decide +kernel, rfl, by decide +kernel, by decide +kernel⟩
theorem sc_settled : FnScope ["town"] ["town"] (defScope s_settled) := ⟨rfl, rfl, rfl, by decide +kernel, rfl, by decide +kernel, by decide +kernel⟩
theorem sc_Town_falls : FnScope ["self"] ["self"] (defScope s_Town_falls) := ⟨rfl, rfl, rfl, by decide +kernel, rfl, by decide +kernel, by decide +kernel⟩
theorem sc_lost_by : FnScope ["town", "fallen", "later"] ["town", "fallen"] (defScope s_lost_by) := ⟨rfl, rfl, rfl, by decide +kernel, rfl, by decide +kernel, by decide +kernel⟩
theorem sc__law_free_right : FnScope ["_law_worth", "_law_town", "_law_deed", "_law_who", "_law_first", "_law_second"] ["_law_worth"] (defScope s__law_free_right) := ⟨rfl, rfl, rfl, by decide +kernel, rfl, by decide +kernel, by decide +kernel⟩
theorem sc_Town_look_at_hand : FnScope ["self", "hand"] ["self", "hand"] (defScope s_Town_look_at_hand) := ⟨rfl, rfl, rfl, by decide +kernel, rfl, by decide +kernel, by decide +kernel⟩
theorem sc_Town_steps : FnScope ["self", "hand"] ["self", "hand"] (defScope s_Town_steps) := ⟨rfl, rfl, rfl, by decide +kernel, rfl, by decide +kernel, by decide +kernel⟩
theorem sc_Town_written : FnScope ["self", "hand"] ["self", "hand"] (defScope s_Town_written) := ⟨rfl, rfl, rfl, by decide +kernel, rfl, by decide +kernel, by decide +kernel⟩
theorem sc__law_wait_right : FnScope ["_law_worth", "_law_town", "_law_deed"] ["_law_worth"] (defScope s__law_wait_right) := ⟨rfl, rfl, rfl, by decide +kernel, rfl, by decide +kernel, by decide +kernel⟩
theorem sc_Town_known : FnScope ["self", "hand"] ["self", "hand"] (defScope s_Town_known) := ⟨rfl, rfl, rfl, by decide +kernel, rfl, by decide +kernel, by decide +kernel⟩
theorem sc__law_along_right : FnScope ["_law_worth", "_law_town", "_law_deed"] ["_law_worth"] (defScope s__law_along_right) := ⟨rfl, rfl, rfl, by decide +kernel, rfl, by decide +kernel, by decide +kernel⟩
theorem sc__law_take : FnScope ["_law_pool_here", "_law_size", "_law_found"] ["_law_pool_here", "_law_size"] (defScope s__law_take) := ⟨rfl, rfl, rfl, by decide +kernel, rfl, by decide +kernel, by decide +kernel⟩
theorem sc__law_pool : FnScope ["_law_script", "_law_k", "_law_cell", "_law_mixed"] ["_law_script", "_law_k"] (defScope s__law_pool) := ⟨rfl, rfl, rfl, by decide +kernel, rfl, by decide +kernel, by decide +kernel⟩
theorem sc_law : FnScope ["_law_script", "_law_pool_here", "_law_worth"] ["_law_script"] (defScope s_law) := ⟨rfl, rfl, rfl, by decide +kernel, rfl, by decide +kernel, by decide +kernel⟩
def d_is_whole : He.DefD := ⟨("is_whole", none), "is_whole", "is_whole", defArgs s_is_whole, defBody s_is_whole, defScope s_is_whole, [], []⟩
def d_is_within : He.DefD := ⟨("is_within", none), "is_within", "is_within", defArgs s_is_within, defBody s_is_within, defScope s_is_within, [], []⟩
def d_are_targets : He.DefD := ⟨("are_targets", none), "are_targets", "are_targets", defArgs s_are_targets, defBody s_are_targets, defScope s_are_targets, [], []⟩
def d_are_tables : He.DefD := ⟨("are_tables", none), "are_tables", "are_tables", defArgs s_are_tables, defBody s_are_tables, defScope s_are_tables, [], []⟩
def d_Town_init : He.DefD := ⟨("Town", some "__init__"), "__init__", "Town.__init__", defArgs s_Town_init, defBody s_Town_init, defScope s_Town_init, [], [("way", .str "wait")]⟩
def d__law_row_of : He.DefD := ⟨("_law_row_of", none), "_law_row_of", "_law_row_of", defArgs s__law_row_of, defBody s__law_row_of, defScope s__law_row_of, [], []⟩
def d_Town_take_over : He.DefD := ⟨("Town", some "take_over"), "take_over", "Town.take_over", defArgs s_Town_take_over, defBody s_Town_take_over, defScope s_Town_take_over, [], []⟩
def d_Town_first_untold : He.DefD := ⟨("Town", some "first_untold"), "first_untold", "Town.first_untold", defArgs s_Town_first_untold, defBody s_Town_first_untold, defScope s_Town_first_untold, [], []⟩
def d_taken_worth : He.DefD := ⟨("taken_worth", none), "taken_worth", "taken_worth", defArgs s_taken_worth, defBody s_taken_worth, defScope s_taken_worth, [], []⟩
def d_Going_do : He.DefD := ⟨("Going", some "do"), "do", "Going.do", defArgs s_Going_do, defBody s_Going_do, defScope s_Going_do, [], []⟩
def d_Going_init : He.DefD := ⟨("Going", some "__init__"), "__init__", "Going.__init__", defArgs s_Going_init, defBody s_Going_init, defScope s_Going_init, [], []⟩
def d_Town_going : He.DefD := ⟨("Town", some "going"), "going", "Town.going", defArgs s_Town_going, defBody s_Town_going, defScope s_Town_going, [], []⟩
def d_Bearing_init : He.DefD := ⟨("Bearing", some "__init__"), "__init__", "Bearing.__init__", defArgs s_Bearing_init, defBody s_Bearing_init, defScope s_Bearing_init, [], []⟩
def d_Town_bearing : He.DefD := ⟨("Town", some "bearing"), "bearing", "Town.bearing", defArgs s_Town_bearing, defBody s_Town_bearing, defScope s_Town_bearing, [], []⟩
def d_Town_tell : He.DefD := ⟨("Town", some "tell"), "tell", "Town.tell", defArgs s_Town_tell, defBody s_Town_tell, defScope s_Town_tell, [], []⟩
def d_Town_put : He.DefD := ⟨("Town", some "put"), "put", "Town.put", defArgs s_Town_put, defBody s_Town_put, defScope s_Town_put, [], []⟩
def d_Town_count_of : He.DefD := ⟨("Town", some "count_of"), "count_of", "Town.count_of", defArgs s_Town_count_of, defBody s_Town_count_of, defScope s_Town_count_of, [], []⟩
def d_Town_send_all : He.DefD := ⟨("Town", some "send_all"), "send_all", "Town.send_all", defArgs s_Town_send_all, defBody s_Town_send_all, defScope s_Town_send_all, [], []⟩
def d_Going_can : He.DefD := ⟨("Going", some "can"), "can", "Going.can", defArgs s_Going_can, defBody s_Going_can, defScope s_Going_can, [], []⟩
def d_Town_step : He.DefD := ⟨("Town", some "step"), "step", "Town.step", defArgs s_Town_step, defBody s_Town_step, defScope s_Town_step, [], []⟩
def d_Town_write : He.DefD := ⟨("Town", some "write"), "write", "Town.write", defArgs s_Town_write, defBody s_Town_write, defScope s_Town_write, [], []⟩
def d_Town_back_by : He.DefD := ⟨("Town", some "back_by"), "back_by", "Town.back_by", defArgs s_Town_back_by, defBody s_Town_back_by, defScope s_Town_back_by, [], []⟩
def d_Town_cut_down : He.DefD := ⟨("Town", some "cut_down"), "cut_down", "Town.cut_down", defArgs s_Town_cut_down, defBody s_Town_cut_down, defScope s_Town_cut_down, [], []⟩
def d_Town_kept_by : He.DefD := ⟨("Town", some "kept_by"), "kept_by", "Town.kept_by", defArgs s_Town_kept_by, defBody s_Town_kept_by, defScope s_Town_kept_by, [], []⟩
def d_Town_fall : He.DefD := ⟨("Town", some "fall"), "fall", "Town.fall", defArgs s_Town_fall, defBody s_Town_fall, defScope s_Town_fall, [], []⟩
def d_Town_settled_steps : He.DefD := ⟨("Town", some "settled_steps"), "settled_steps", "Town.settled_steps", defArgs s_Town_settled_steps, defBody s_Town_settled_steps, defScope s_Town_settled_steps, [], []⟩
def d_Town_clear : He.DefD := ⟨("Town", some "clear"), "clear", "Town.clear", defArgs s_Town_clear, defBody s_Town_clear, defScope s_Town_clear, [], []⟩
def d_Town_do_form : He.DefD := ⟨("Town", some "do_form"), "do_form", "Town.do_form", defArgs s_Town_do_form, defBody s_Town_do_form, defScope s_Town_do_form, [], []⟩
def d_Town_twin : He.DefD := ⟨("Town", some "twin"), "twin", "Town.twin", defArgs s_Town_twin, defBody s_Town_twin, defScope s_Town_twin, [], []⟩
def d_Town_is_hand : He.DefD := ⟨("Town", some "is_hand"), "is_hand", "Town.is_hand", defArgs s_Town_is_hand, defBody s_Town_is_hand, defScope s_Town_is_hand, [], []⟩
def d_are_fallen : He.DefD := ⟨("are_fallen", none), "are_fallen", "are_fallen", defArgs s_are_fallen, defBody s_are_fallen, defScope s_are_fallen, [], []⟩
def d_Town_is_form : He.DefD := ⟨("Town", some "is_form"), "is_form", "Town.is_form", defArgs s_Town_is_form, defBody s_Town_is_form, defScope s_Town_is_form, [], []⟩
def d_Town_do : He.DefD := ⟨("Town", some "do"), "do", "Town.do", defArgs s_Town_do, defBody s_Town_do, defScope s_Town_do, [], []⟩
def d_Town_under_way : He.DefD := ⟨("Town", some "under_way"), "under_way", "Town.under_way", defArgs s_Town_under_way, defBody s_Town_under_way, defScope s_Town_under_way, [], []⟩
def d_Town_told : He.DefD := ⟨("Town", some "told"), "told", "Town.told", defArgs s_Town_told, defBody s_Town_told, defScope s_Town_told, [], []⟩
def d_settled : He.DefD := ⟨("settled", none), "settled", "settled", defArgs s_settled, defBody s_settled, defScope s_settled, [], []⟩
def d_Town_falls : He.DefD := ⟨("Town", some "falls"), "falls", "Town.falls", defArgs s_Town_falls, defBody s_Town_falls, defScope s_Town_falls, [], []⟩
def d_lost_by : He.DefD := ⟨("lost_by", none), "lost_by", "lost_by", defArgs s_lost_by, defBody s_lost_by, defScope s_lost_by, [], []⟩
def d__law_free_right : He.DefD := ⟨("_law_free_right", none), "_law_free_right", "_law_free_right", defArgs s__law_free_right, defBody s__law_free_right, defScope s__law_free_right, [], []⟩
def d_Town_look_at_hand : He.DefD := ⟨("Town", some "look_at_hand"), "look_at_hand", "Town.look_at_hand", defArgs s_Town_look_at_hand, defBody s_Town_look_at_hand, defScope s_Town_look_at_hand, [], []⟩
def d_Town_steps : He.DefD := ⟨("Town", some "steps"), "steps", "Town.steps", defArgs s_Town_steps, defBody s_Town_steps, defScope s_Town_steps, [], []⟩
def d_Town_written : He.DefD := ⟨("Town", some "written"), "written", "Town.written", defArgs s_Town_written, defBody s_Town_written, defScope s_Town_written, [], []⟩
def d__law_wait_right : He.DefD := ⟨("_law_wait_right", none), "_law_wait_right", "_law_wait_right", defArgs s__law_wait_right, defBody s__law_wait_right, defScope s__law_wait_right, [], []⟩
def d_Town_known : He.DefD := ⟨("Town", some "known"), "known", "Town.known", defArgs s_Town_known, defBody s_Town_known, defScope s_Town_known, [], []⟩
def d__law_along_right : He.DefD := ⟨("_law_along_right", none), "_law_along_right", "_law_along_right", defArgs s__law_along_right, defBody s__law_along_right, defScope s__law_along_right, [], []⟩
def d__law_take : He.DefD := ⟨("_law_take", none), "_law_take", "_law_take", defArgs s__law_take, defBody s__law_take, defScope s__law_take, [], []⟩
def d__law_pool : He.DefD := ⟨("_law_pool", none), "_law_pool", "_law_pool", defArgs s__law_pool, defBody s__law_pool, defScope s__law_pool, [], []⟩
def d_law : He.DefD := ⟨("law", none), "law", "law", defArgs s_law, defBody s_law, defScope s_law, [], []⟩
def fn : List He.DefD := [d_is_whole, d_is_within, d_are_targets, d_are_tables, d_Town_init, d__law_row_of, d_Town_take_over, d_Town_first_untold, d_taken_worth, d_Going_do, d_Going_init, d_Town_going, d_Bearing_init, d_Town_bearing, d_Town_tell, d_Town_put, d_Town_count_of, d_Town_send_all, d_Going_can, d_Town_step, d_Town_write, d_Town_back_by, d_Town_cut_down, d_Town_kept_by, d_Town_fall, d_Town_settled_steps, d_Town_clear, d_Town_do_form, d_Town_twin, d_Town_is_hand, d_are_fallen, d_Town_is_form, d_Town_do, d_Town_under_way, d_Town_told, d_settled, d_Town_falls, d_lost_by, d__law_free_right, d_Town_look_at_hand, d_Town_steps, d_Town_written, d__law_wait_right, d_Town_known, d__law_along_right, d__law_take, d__law_pool, d_law]
def fa0 : List He.Fa := [.glo "Town", .cls "Town", .noat "Town" "done", .noat "Town" "own_many", .noat "Town" "begun_from", .noat "Town" "fall_rows", .noat "Town" "told_rows", .noat "Town" "own_written", .noat "Town" "rows", .free "len", .noat "Town" "own_way", .noat "Town" "own_tables", .free "isinstance", .free "str", .glo "WAYS", .free "enumerate", .free "int", .free "bool", .glo "is_whole", .glo "is_within", .free "all", .free "tuple", .int "MOST_TARGETS" 3, .glo "are_targets", .int "MOST_TUPLES" 4, .int "FEWEST" 2, .int "MOST" 6, .glo "are_tables", .mkr "Town", .glo "_law_row_of"]
def fa1 : List He.Fa := [.free "list", .meth "Town" "take_over", .int "MOST_DEEDS" 400, .glo "Bearing", .cls "Bearing", .noat "Bearing" "takers", .glo "Going", .cls "Going", .noat "Going" "all_letters", .noat "Bearing" "step_of", .noat "Bearing" "borne", .meth "Town" "first_untold", .noat "Going" "rows", .noat "Going" "worths", .noat "Going" "sent", .str "UP" "up", .noat "Going" "moods", .int "MOST_WORTH" 999, .glo "taken_worth", .str "REST" "rest", .meth "Going" "do", .free "range", .mkr "Going", .meth "Town" "going", .noat "Bearing" "own_known", .free "dict", .mkr "Bearing", .meth "Town" "bearing", .meth "Town" "tell", .meth "Town" "put"]
def fa2 : List He.Fa := [.str "WAIT" "wait", .meth "Town" "count_of", .meth "Town" "send_all", .meth "Going" "can", .meth "Town" "step", .meth "Town" "write", .free "zip", .free "min", .meth "Town" "back_by", .meth "Town" "cut_down", .str "ALONG" "along", .meth "Town" "kept_by", .meth "Town" "fall", .meth "Town" "settled_steps", .free "max", .meth "Town" "clear", .meth "Town" "do_form", .meth "Town" "twin", .meth "Town" "is_hand", .glo "are_fallen", .glo "SIZES", .meth "Town" "is_form", .meth "Town" "do", .free "sorted", .meth "Town" "under_way", .meth "Town" "told", .glo "settled", .meth "Town" "falls", .glo "lost_by", .glo "_law_free_right"]
def fa3 : List He.Fa := [.meth "Town" "look_at_hand", .meth "Town" "steps", .meth "Town" "written", .glo "_law_wait_right", .meth "Town" "known", .glo "_law_along_right", .glo "_law_take", .free "abs", .glo "_law_pool", .glo "law"]
def fa : List He.Fa := [.glo "Town", .cls "Town", .noat "Town" "done", .noat "Town" "own_many", .noat "Town" "begun_from", .noat "Town" "fall_rows", .noat "Town" "told_rows", .noat "Town" "own_written", .noat "Town" "rows", .free "len", .noat "Town" "own_way", .noat "Town" "own_tables", .free "isinstance", .free "str", .glo "WAYS", .free "enumerate", .free "int", .free "bool", .glo "is_whole", .glo "is_within", .free "all", .free "tuple", .int "MOST_TARGETS" 3, .glo "are_targets", .int "MOST_TUPLES" 4, .int "FEWEST" 2, .int "MOST" 6, .glo "are_tables", .mkr "Town", .glo "_law_row_of", .free "list", .meth "Town" "take_over", .int "MOST_DEEDS" 400, .glo "Bearing", .cls "Bearing", .noat "Bearing" "takers", .glo "Going", .cls "Going", .noat "Going" "all_letters", .noat "Bearing" "step_of", .noat "Bearing" "borne", .meth "Town" "first_untold", .noat "Going" "rows", .noat "Going" "worths", .noat "Going" "sent", .str "UP" "up", .noat "Going" "moods", .int "MOST_WORTH" 999, .glo "taken_worth", .str "REST" "rest", .meth "Going" "do", .free "range", .mkr "Going", .meth "Town" "going", .noat "Bearing" "own_known", .free "dict", .mkr "Bearing", .meth "Town" "bearing", .meth "Town" "tell", .meth "Town" "put", .str "WAIT" "wait", .meth "Town" "count_of", .meth "Town" "send_all", .meth "Going" "can", .meth "Town" "step", .meth "Town" "write", .free "zip", .free "min", .meth "Town" "back_by", .meth "Town" "cut_down", .str "ALONG" "along", .meth "Town" "kept_by", .meth "Town" "fall", .meth "Town" "settled_steps", .free "max", .meth "Town" "clear", .meth "Town" "do_form", .meth "Town" "twin", .meth "Town" "is_hand", .glo "are_fallen", .glo "SIZES", .meth "Town" "is_form", .meth "Town" "do", .free "sorted", .meth "Town" "under_way", .meth "Town" "told", .glo "settled", .meth "Town" "falls", .glo "lost_by", .glo "_law_free_right", .meth "Town" "look_at_hand", .meth "Town" "steps", .meth "Town" "written", .glo "_law_wait_right", .meth "Town" "known", .glo "_law_along_right", .glo "_law_take", .free "abs", .glo "_law_pool", .glo "law"]
def ts : List He.Tab := [(fun K => He.ga K "SIZES", kvs_SIZES.map (·.1))]
def ex (K : PySem.W.Frag) : Bool := He.valsB K (He.ga K "SIZES") (kvs_SIZES.map fun p => (p.1, .int p.2)) && He.tupB K "WAYS" (tups_WAYS.map He.Dv.str)
theorem ord0_Town_init {K : PySem.W.Frag} : Ord K (fun vs zs => vs ++ ([.str "wait"] ++ zs)) gd0_Town_init := ord_mid (mv := [.str "wait"]) (md := [.str "wait"]) fun _ _ => .cons (.str _) .nil
theorem ord1_Town_init {K : PySem.W.Frag} : Ord K (fun vs zs => vs ++ ([] ++ zs)) gd1_Town_init := ord_mid (mv := []) (md := []) fun _ _ => .nil
section
variable {P : Program} {w : World} {K : PySem.W.Frag} {mg : Str → Option Value} {h : Heap}
abbrev BG (w : World) (K : PySem.W.Frag) (mg : Str → Option Value) (h : Heap) : Prop := Bg fa fn ts w K mg h
theorem kdt_SIZES (b : BG w K mg h) (e : ex K = true) : KD K w (He.ga K "SIZES") tab_SIZES := by
  refine kd_of (kvs := kvs_SIZES) ?_ ?_
  · have z : ts.map (fun t => He.dicW K (t.1 K)) = ts.map fun t => some (He.keysIn w.params t.2) := congrArg (fun z : He.AlT => z.2) b.c
    have z2 := congrArg (fun l => l[0]?) z
    exact Option.some.inj z2
  · simp only [ex, Bool.and_eq_true] at e; exact e.1
theorem tqt_WAYS (e : ex K = true) : ∀ H, SqT K H (He.ga K "WAYS") ((tups_WAYS.map He.Dv.str).map (He.Dv.v K)) := by
  simp only [ex, Bool.and_eq_true] at e; exact He.tupB_ok e.2
def Ok_is_whole (P : Program) (w : World) (K : PySem.W.Frag) (mg : Str → Option Value) (base : Heap) : Prop := ∃ fd, FnOk P w K mg base (L2.CX P w) 2 (He.fAd K ("is_whole", none)) fd ["thing"] (spF mg K 1 M_is_whole) ∧ PySem.W.keepIn K (.ref (He.fAd K ("is_whole", none))) = true ∧ Binds K fd ["thing"] []
theorem ok_is_whole {base : Heap} (b : BG w K mg h)   : Ok_is_whole P w K mg base := by
  obtain ⟨fd, F⟩ := b.c.d.def_ 0 (d := d_is_whole) rfl
  refine ⟨fd, fnOkD F sc_is_whole (fun cdv A outer s H E hr => ?_), F.kp, F.bindsN fun _ _ _ _ _ _ us hl => match us, hl with | [_], _ => rfl⟩
  show SSs _ _ _ B_is_whole
  unfold B_is_whole
  exact (ss_one (ss_ret (se_and (se_isi "int" (by rfl) (b.free 12) bb_isinstance (se_var 0) (by rfl) (b.free 16) bt_int) (se_one (se_not (se_isi "bool" (by rfl) (b.free 12) bb_isinstance (se_var 0) (by rfl) (b.free 17) bt_bool))))))
def Ok_is_within (P : Program) (w : World) (K : PySem.W.Frag) (mg : Str → Option Value) (base : Heap) : Prop := ∃ fd, FnOk P w K mg base (L2.CX P w) 3 (He.fAd K ("is_within", none)) fd ["thing", "least", "most"] (spF mg K 3 M_is_within) ∧ PySem.W.keepIn K (.ref (He.fAd K ("is_within", none))) = true ∧ Binds K fd ["thing", "least", "most"] []
theorem ok_is_within {base : Heap} (b : BG w K mg h)  (o_is_whole : Ok_is_whole P w K mg base) : Ok_is_within P w K mg base := by
  obtain ⟨fd, F⟩ := b.c.d.def_ 1 (d := d_is_within) rfl
  obtain ⟨fd_is_whole, G_is_whole, kp_is_whole, b_is_whole⟩ := o_is_whole
  refine ⟨fd, fnOkD F sc_is_within (fun cdv A outer s H E hr => ?_), F.kp, F.bindsN fun _ _ _ _ _ _ us hl => match us, hl with | [_, _, _], _ => rfl⟩
  show SSs _ _ _ B_is_within
  unfold B_is_within
  exact (ss_one (ss_ret (se_and (se_callL G_is_whole (hr.mono (by decide)) (b.glo 18) kp_is_whole b_is_whole (takes_of rfl rfl rfl rfl) (sa_cons (se_var 0) sa_nil)) (se_one (se_chain or_leX or_leX (se_var 1) (se_var 0) (se_var 2))))))
def Ok_are_targets (P : Program) (w : World) (K : PySem.W.Frag) (mg : Str → Option Value) (base : Heap) : Prop := ∃ fd, FnOk P w K mg base (L2.CX P w) 4 (He.fAd K ("are_targets", none)) fd ["many", "hand", "thing"] (spF mg K 3 M_are_targets) ∧ PySem.W.keepIn K (.ref (He.fAd K ("are_targets", none))) = true ∧ Binds K fd ["many", "hand", "thing"] []
theorem ok_are_targets {base : Heap} (b : BG w K mg h)  (o_is_within : Ok_is_within P w K mg base) : Ok_are_targets P w K mg base := by
  obtain ⟨fd, F⟩ := b.c.d.def_ 2 (d := d_are_targets) rfl
  obtain ⟨fd_is_within, G_is_within, kp_is_within, b_is_within⟩ := o_is_within
  refine ⟨fd, fnOkD F sc_are_targets (fun cdv A outer s H E hr => ?_), F.kp, F.bindsN fun _ _ _ _ _ _ us hl => match us, hl with | [_, _, _], _ => rfl⟩
  show SSs _ _ _ B_are_targets
  unfold B_are_targets
  exact (ss_cons (ss_if (st_w (sw_or (st_not (st_val (se_isi "tuple" (by rfl) (b.free 12) bb_isinstance (se_var 2) (by rfl) (b.free 21) bt_tuple))) (sw_or1 (st_cmp or_gtX (se_blt cr_len (by rfl) (b.free 9) bb_len (sa_cons (se_var 2) sa_nil)) (se_gint (by rfl) (b.int 22).choose_spec) rfl)))) (ss_one (ss_ret se_bl)) ss_nil) (ss_one (ss_ret (se_blt (cr_allL (by rfl)) (by rfl) (b.free 20) bb_all (sa_cons (se_lockL (se_lc rfl sc_are_targets.nd (blkOk_by (own := [("one", 3)]) (by first | rfl | kernel_rfl)) (by decide) (si_seqF (se_var 2)) (fun s1 H1 C1 cl1 fp1 => (sh_nm 3 sc_are_targets.nd)) (fun s1 H1 C1 cl1 fp1 => sts_nil) (fun s1 H1 C1 cl1 fp1 => (se_and (se_callL G_is_within (hr.mono (by decide)) (b.glo 19) kp_is_within b_is_within takes0 (sa_cons (se_var 3) (sa_cons se_int (sa_cons (se_var 0) sa_nil)))) (se_one (se_cmp (or_ne (hu64 hr)) (se_var 3) (se_var 1) rfl))))) (mVar 2)) sa_nil)))))
def Ok_are_tables (P : Program) (w : World) (K : PySem.W.Frag) (mg : Str → Option Value) (base : Heap) : Prop := ∃ fd, FnOk P w K mg base (L2.CX P w) 5 (He.fAd K ("are_tables", none)) fd ["thing"] (spF mg K 1 M_are_tables) ∧ PySem.W.keepIn K (.ref (He.fAd K ("are_tables", none))) = true ∧ Binds K fd ["thing"] []
theorem ok_are_tables {base : Heap} (b : BG w K mg h)  (o_are_targets : Ok_are_targets P w K mg base) : Ok_are_tables P w K mg base := by
  obtain ⟨fd, F⟩ := b.c.d.def_ 3 (d := d_are_tables) rfl
  obtain ⟨fd_are_targets, G_are_targets, kp_are_targets, b_are_targets⟩ := o_are_targets
  refine ⟨fd, fnOkD F sc_are_tables (fun cdv A outer s H E hr => ?_), F.kp, F.bindsN fun _ _ _ _ _ _ us hl => match us, hl with | [_], _ => rfl⟩
  show SSs _ _ _ B_are_tables
  unfold B_are_tables
  exact (ss_cons (ss_if (st_w (sw_or (st_not (st_val (se_isi "tuple" (by rfl) (b.free 12) bb_isinstance (se_var 0) (by rfl) (b.free 21) bt_tuple))) (sw_or1 (st_not (st_chain or_leX or_leX (se_gint (by rfl) (b.int 25).choose_spec) (se_blt cr_len (by rfl) (b.free 9) bb_len (sa_cons (se_var 0) sa_nil)) (se_gint (by rfl) (b.int 26).choose_spec)))))) (ss_one (ss_ret se_bl)) ss_nil) (ss_cons (ss_for (passes_of rfl) rfl (si_enum (b.free 15) (se_var 0)) (sg_tup rfl (sgs_cons (sg_name 1 sc_are_tables.nd) (sgs_cons (sg_name 2 sc_are_tables.nd) sgs_nil))) (ss_cons (ss_if (st_w (sw_or (st_not (st_val (se_isi "tuple" (by rfl) (b.free 12) bb_isinstance (se_var 2) (by rfl) (b.free 21) bt_tuple))) (sw_or1 (st_not (st_chain or_leX or_leX se_int (se_blt cr_len (by rfl) (b.free 9) bb_len (sa_cons (se_var 2) sa_nil)) (se_gint (by rfl) (b.int 24).choose_spec)))))) (ss_one (ss_ret se_bl)) ss_nil) (ss_one (ss_if (st_not (st_val (se_blt (cr_allL (by rfl)) (by rfl) (b.free 20) bb_all (sa_cons (se_lockL (se_lc rfl sc_are_tables.nd (blkOk_by (own := [("one", 3)]) (by first | rfl | kernel_rfl)) (by decide) (si_seqF (se_var 2)) (fun s1 H1 C1 cl1 fp1 => (sh_nm 3 sc_are_tables.nd)) (fun s1 H1 C1 cl1 fp1 => sts_nil) (fun s1 H1 C1 cl1 fp1 => (se_callL G_are_targets (hr.mono (by decide)) (b.glo 23) kp_are_targets b_are_targets takes0 (sa_cons (se_blt cr_len (by rfl) (b.free 9) bb_len (sa_cons (se_var 0) sa_nil)) (sa_cons (se_var 1) (sa_cons (se_var 3) sa_nil)))))) (mVar 2)) sa_nil)))) (ss_one (ss_ret se_bl)) ss_nil)))) (ss_one (ss_ret se_bl))))
def Ok_Town_init (P : Program) (w : World) (K : PySem.W.Frag) (mg : Str → Option Value) (base : Heap) : Prop := ∃ fd, FnOk P w K mg base (L2.CX P w) 6 (He.fAd K ("Town", some "__init__")) fd ["self", "tables", "way"] (spF mg K 3 M_Town_init) ∧ PySem.W.keepIn K (.ref (He.fAd K ("Town", some "__init__"))) = true ∧ (∃ g, KBn K fd ["self", "tables", "way"] 2 [] g (fun vs zs => vs ++ ([.str "wait"] ++ zs))) ∧ ∃ g, KBn K fd ["self", "tables", "way"] 2 ["way"] g (fun vs zs => vs ++ ([] ++ zs))
theorem ok_Town_init {base : Heap} (b : BG w K mg h)  (tq_WAYS : ∀ H, SqT K H (He.ga K "WAYS") ((tups_WAYS.map He.Dv.str).map (He.Dv.v K))) (o_are_tables : Ok_are_tables P w K mg base) : Ok_Town_init P w K mg base := by
  obtain ⟨fd, F⟩ := b.c.d.def_ 4 (d := d_Town_init) rfl
  obtain ⟨fd_are_tables, G_are_tables, kp_are_tables, b_are_tables⟩ := o_are_tables
  refine ⟨fd, fnOkD F sc_Town_init (fun cdv A outer s H E hr => ?_), F.kp, kbn_mid F 2 [] (d_Town_init.kws K) (List.cons_ne_nil _ _) (fun _ h => h) (fun D doc pm an cdv ct us mv ws h1 h2 h3 => match us, mv, ws, h1, h2, h3 with | [_, _], [_], [], _, _, _ => ⟨_, _, _, _, _, _, rfl, rfl, rfl⟩), kbn_mid F 2 ["way"] [] (List.cons_ne_nil _ _) (fun _ h => by cases h) (fun D doc pm an cdv ct us mv ws h1 h2 h3 => match us, mv, ws, h1, h2, h3 with | [_, _], [], [_], _, _, _ => rfl)⟩
  show SSs _ _ _ B_Town_init
  unfold B_Town_init
  exact (ss_cons (ss_if (st_not (st_val (se_callL G_are_tables (hr.mono (by decide)) (b.glo 27) kp_are_tables b_are_tables (takes_of rfl rfl rfl rfl) (sa_cons (se_var 1) sa_nil)))) (ss_one ss_never) ss_nil) (ss_cons (ss_if (st_w (sw_or (st_not (st_val (se_isi "str" (by rfl) (b.free 12) bb_isinstance (se_var 2) (by rfl) (b.free 13) bt_str))) (sw_or1 (st_gNotIn (by rfl) (b.glo 14) tq_WAYS (fun _ _ => den_strs _) (hu65 hr) (se_var 2))))) (ss_one ss_never) ss_nil) (ss_cons (ss_fld (b.fld 0 1 11) (se_var 0) (se_var 1)) (ss_cons (ss_fld (b.fld 0 1 10) (se_var 0) (se_var 2)) (ss_cons (ss_fld (b.fld 0 1 3) (se_var 0) (se_blt cr_len (by rfl) (b.free 9) bb_len (sa_cons (se_var 1) sa_nil))) (ss_cons (ss_fld (b.fld 0 1 8) (se_var 0) (se_lst sa_nil)) (ss_cons (ss_fld (b.fld 0 1 7) (se_var 0) (se_op or_mul (se_lst (sa_cons se_int sa_nil)) (se_fld (b.fld 0 1 3) (se_var 0)))) (ss_cons (ss_fld (b.fld 0 1 6) (se_var 0) (se_lst sa_nil)) (ss_cons (ss_fld (b.fld 0 1 5) (se_var 0) (se_lst sa_nil)) (ss_cons (ss_fld (b.fld 0 1 4) (se_var 0) (se_op or_mul (se_lst (sa_cons se_int sa_nil)) (se_fld (b.fld 0 1 3) (se_var 0)))) (ss_one (ss_fld (b.fld 0 1 2) (se_var 0) (se_lst sa_nil)))))))))))))
def Ok__law_row_of (P : Program) (w : World) (K : PySem.W.Frag) (mg : Str → Option Value) (base : Heap) : Prop := ∃ fd, FnOk P w K mg base (L2.CX P w) 8 (He.fAd K ("_law_row_of", none)) fd ["_law_kind"] (spF mg K 1 M__law_row_of) ∧ PySem.W.keepIn K (.ref (He.fAd K ("_law_row_of", none))) = true ∧ Binds K fd ["_law_kind"] []
theorem ok__law_row_of {base : Heap} (b : BG w K mg h)  (o_Town_init : Ok_Town_init P w K mg base) : Ok__law_row_of P w K mg base := by
  obtain ⟨fd, F⟩ := b.c.d.def_ 5 (d := d__law_row_of) rfl
  obtain ⟨fd_Town_init, G_Town_init, kp_Town_init, ⟨gg0_Town_init, kb0_Town_init⟩, ⟨gg1_Town_init, kb1_Town_init⟩⟩ := o_Town_init
  refine ⟨fd, fnOkD F sc__law_row_of (fun cdv A outer s H E hr => ?_), F.kp, F.bindsN fun _ _ _ _ _ _ us hl => match us, hl with | [_], _ => rfl⟩
  show SSs _ _ _ B__law_row_of
  unfold B__law_row_of
  exact (ss_one (ss_ret (se_makeK (b.mkr 28) G_Town_init (hr.mono (by decide)) (b.glo 0) kb1_Town_init ord1_Town_init (takes_of rfl rfl rfl rfl) (sa_cons (se_tup (sa_cons (se_tup (sa_cons (se_tup (sa_cons se_int sa_nil)) sa_nil)) (sa_cons (se_tup (sa_cons (se_tup (sa_cons se_int sa_nil)) sa_nil)) (sa_cons (se_tup (sa_cons (se_tup (sa_cons se_int sa_nil)) sa_nil)) sa_nil)))) sa_nil) (sk_cons (se_var 0) sk_nil))))
def Ok_Town_take_over (P : Program) (w : World) (K : PySem.W.Frag) (mg : Str → Option Value) (base : Heap) : Prop := ∃ fd, FnOk P w K mg base (L2.CX P w) 2 (He.fAd K ("Town", some "take_over")) fd ["self", "other"] (spF mg K 2 M_Town_take_over) ∧ PySem.W.keepIn K (.ref (He.fAd K ("Town", some "take_over"))) = true ∧ Binds K fd ["self", "other"] []
theorem ok_Town_take_over {base : Heap} (b : BG w K mg h)   : Ok_Town_take_over P w K mg base := by
  obtain ⟨fd, F⟩ := b.c.d.def_ 6 (d := d_Town_take_over) rfl
  refine ⟨fd, fnOkD F sc_Town_take_over (fun cdv A outer s H E hr => ?_), F.kp, F.bindsN fun _ _ _ _ _ _ us hl => match us, hl with | [_, _], _ => rfl⟩
  show SSs _ _ _ B_Town_take_over
  unfold B_Town_take_over
  exact (ss_cons (ss_asg (se_tup (sa_cons (se_bty cr_list (by rfl) (b.free 30) bt_list (sa_cons (se_fld (b.fld 0 1 8) (se_var 1)) sa_nil)) (sa_cons (se_bty cr_list (by rfl) (b.free 30) bt_list (sa_cons (se_fld (b.fld 0 1 7) (se_var 1)) sa_nil)) sa_nil))) (sg_tup rfl (sgs_cons (sg_fld (b.fld 0 1 8) (se_var 0)) (sgs_cons (sg_fld (b.fld 0 1 7) (se_var 0)) sgs_nil)))) (ss_cons (ss_asg (se_tup (sa_cons (se_bty cr_list (by rfl) (b.free 30) bt_list (sa_cons (se_fld (b.fld 0 1 6) (se_var 1)) sa_nil)) (sa_cons (se_bty cr_list (by rfl) (b.free 30) bt_list (sa_cons (se_fld (b.fld 0 1 5) (se_var 1)) sa_nil)) sa_nil))) (sg_tup rfl (sgs_cons (sg_fld (b.fld 0 1 6) (se_var 0)) (sgs_cons (sg_fld (b.fld 0 1 5) (se_var 0)) sgs_nil)))) (ss_one (ss_asg (se_tup (sa_cons (se_bty cr_list (by rfl) (b.free 30) bt_list (sa_cons (se_fld (b.fld 0 1 4) (se_var 1)) sa_nil)) (sa_cons (se_bty cr_list (by rfl) (b.free 30) bt_list (sa_cons (se_fld (b.fld 0 1 2) (se_var 1)) sa_nil)) sa_nil))) (sg_tup rfl (sgs_cons (sg_fld (b.fld 0 1 4) (se_var 0)) (sgs_cons (sg_fld (b.fld 0 1 2) (se_var 0)) sgs_nil)))))))
def Ok_Town_first_untold (P : Program) (w : World) (K : PySem.W.Frag) (mg : Str → Option Value) (base : Heap) : Prop := ∃ fd, FnOk P w K mg base (L2.CX P w) 2 (He.fAd K ("Town", some "first_untold")) fd ["self", "bearing", "hand", "step", "written", "going"] (spF mg K 6 M_Town_first_untold) ∧ PySem.W.keepIn K (.ref (He.fAd K ("Town", some "first_untold"))) = true ∧ Binds K fd ["self", "bearing", "hand", "step", "written", "going"] []
theorem ok_Town_first_untold {base : Heap} (b : BG w K mg h)   : Ok_Town_first_untold P w K mg base := by
  obtain ⟨fd, F⟩ := b.c.d.def_ 7 (d := d_Town_first_untold) rfl
  refine ⟨fd, fnOkD F sc_Town_first_untold (fun cdv A outer s H E hr => ?_), F.kp, F.bindsN fun _ _ _ _ _ _ us hl => match us, hl with | [_, _, _, _, _, _], _ => rfl⟩
  show SSs _ _ _ B_Town_first_untold
  unfold B_Town_first_untold
  exact (ss_cons (ss_lock (ss_for (passes_of rfl) rfl (si_items (se_fld (b.fld 33 34 39) (se_var 1))) (sg_tup rfl (sgs_cons (sg_name 6 sc_Town_first_untold.nd) (sgs_cons (sg_name 7 sc_Town_first_untold.nd) sgs_nil))) (ss_one (ss_if (st_w (sw_and (st_cmp (or_eq (hu64 hr)) (se_var 7) (se_tup (sa_cons (se_var 2) (sa_cons (se_var 3) sa_nil))) rfl) (sw_and (st_cmp (or_eq (hu64 hr)) (se_ix (hu1 hr) (se_ix (hu1 hr) (se_fld (b.fld 36 37 38) (se_var 5)) (se_var 6)) se_int) (se_fld (b.fld 0 1 3) (se_var 0)) rfl) (sw_and1 (st_cmp (or_notIn (hu65 hr)) (se_var 6) (se_fld (b.fld 33 34 35) (se_var 1)) rfl))))) (ss_one (ss_if (st_val (se_blt (cr_allL (by rfl)) (by rfl) (b.free 20) bb_all (sa_cons (se_lock (se_lc rfl sc_Town_first_untold.nd (blkOk_by (own := [("other", 8), ("number", 9)]) (by first | rfl | kernel_rfl)) (by decide) (si_keys (se_ix (hu1 hr) (se_fld (b.fld 33 34 40) (se_var 1)) (se_var 6))) (fun s1 H1 C1 cl1 fp1 => (sh_tp rfl (shs_cons 8 sc_Town_first_untold.nd (shs_cons 9 sc_Town_first_untold.nd shs_nil)))) (fun s1 H1 C1 cl1 fp1 => sts_nil) (fun s1 H1 C1 cl1 fp1 => (se_cmp or_leX (se_var 9) (se_ix (hu1 hr) (se_var 4) (se_var 8)) rfl))) (mOp2 opIx (mOp1 (opFld ["Bearing"] "borne") (mVar 1)) (mVar 6))) sa_nil))) (ss_one (ss_ret (se_var 6))) ss_nil)) ss_nil))) (mOp1 (opFld ["Bearing"] "step_of") (mVar 1))) (ss_one (ss_ret se_non)))
def Ok_taken_worth (P : Program) (w : World) (K : PySem.W.Frag) (mg : Str → Option Value) (base : Heap) : Prop := ∃ fd, FnOk P w K mg base (L2.CX P w) 2 (He.fAd K ("taken_worth", none)) fd ["worth", "letter"] (spF mg K 2 M_taken_worth) ∧ PySem.W.keepIn K (.ref (He.fAd K ("taken_worth", none))) = true ∧ Binds K fd ["worth", "letter"] []
theorem ok_taken_worth {base : Heap} (b : BG w K mg h)   : Ok_taken_worth P w K mg base := by
  obtain ⟨fd, F⟩ := b.c.d.def_ 8 (d := d_taken_worth) rfl
  refine ⟨fd, fnOkD F sc_taken_worth (fun cdv A outer s H E hr => ?_), F.kp, F.bindsN fun _ _ _ _ _ _ us hl => match us, hl with | [_, _], _ => rfl⟩
  show SSs _ _ _ B_taken_worth
  unfold B_taken_worth
  exact (ss_one (ss_ret (se_op or_mod (se_op or_add (se_op or_add (se_op or_mul se_int (se_var 0)) (se_var 1)) se_int) (se_op or_add (se_gint (by rfl) (b.int 47).choose_spec) se_int))))
def Ok_Going_do (P : Program) (w : World) (K : PySem.W.Frag) (mg : Str → Option Value) (base : Heap) : Prop := ∃ fd, FnOk P w K mg base (L2.CX P w) 3 (He.fAd K ("Going", some "do")) fd ["self", "deed"] (spF mg K 2 M_Going_do) ∧ PySem.W.keepIn K (.ref (He.fAd K ("Going", some "do"))) = true ∧ Binds K fd ["self", "deed"] []
theorem ok_Going_do {base : Heap} (b : BG w K mg h)  (o_taken_worth : Ok_taken_worth P w K mg base) : Ok_Going_do P w K mg base := by
  obtain ⟨fd, F⟩ := b.c.d.def_ 9 (d := d_Going_do) rfl
  obtain ⟨fd_taken_worth, G_taken_worth, kp_taken_worth, b_taken_worth⟩ := o_taken_worth
  refine ⟨fd, fnOkD F sc_Going_do (fun cdv A outer s H E hr => ?_), F.kp, F.bindsN fun _ _ _ _ _ _ us hl => match us, hl with | [_, _], _ => rfl⟩
  show SSs _ _ _ B_Going_do
  unfold B_Going_do
  exact (ss_cons (ss_asg (se_var 1) (sg_tupS rfl (sgs_cons (sg_name 2 sc_Going_do.nd) (sgs_cons (sg_name 3 sc_Going_do.nd) (sgs_star (sg_name 4 sc_Going_do.nd) sgs_nil))))) (ss_cons (ss_set 5 sc_Going_do.nd (se_blt cr_len (by rfl) (b.free 9) bb_len (sa_cons (se_ix (hu1 hr) (se_fld (b.fld 36 37 42) (se_var 0)) (se_var 3)) sa_nil))) (ss_cons (ss_if (st_cmp (or_eq (hu64 hr)) (se_var 2) se_str rfl) (ss_one (ss_asg (se_ix (hu1 hr) (se_var 4) se_int) (sg_sub (hu1 hr) (se_fld (b.fld 36 37 43) (se_var 0)) (se_var 3)))) (ss_one (ss_if (st_cmp (or_eq (hu64 hr)) (se_var 2) se_str rfl) (ss_cons (ss_asg (se_tup (sa_cons (se_ix (hu1 hr) (se_var 4) se_int) (sa_cons (se_ix (hu1 hr) (se_fld (b.fld 36 37 43) (se_var 0)) (se_var 3)) (sa_cons (se_var 5) (sa_cons se_non sa_nil))))) (sg_sub (hu1 hr) (se_fld (b.fld 36 37 38) (se_var 0)) (se_tup (sa_cons (se_var 3) (sa_cons (se_ix (hu1 hr) (se_fld (b.fld 36 37 44) (se_var 0)) (se_var 3)) sa_nil))))) (ss_one (ss_augS (hu1 hr) ipr_add (se_fld (b.fld 36 37 44) (se_var 0)) (se_var 3) se_int))) (ss_one (ss_if (st_cmp (or_eq (hu64 hr)) (se_var 2) se_str rfl) (ss_cons (ss_asg (se_ix (hu1 hr) (se_fld (b.fld 36 37 38) (se_var 0)) (se_tup (sa_cons (se_ix (hu1 hr) (se_var 4) se_int) (sa_cons (se_ix (hu1 hr) (se_var 4) se_int) sa_nil)))) (sg_tup rfl (sgs_cons (sg_name 6 sc_Going_do.nd) (sgs_cons (sg_name 7 sc_Going_do.nd) (sgs_cons (sg_name 8 sc_Going_do.nd) (sgs_cons (sg_name 9 sc_Going_do.nd) sgs_nil)))))) (ss_cons (ss_asg (se_tup (sa_cons (se_var 6) (sa_cons (se_var 7) (sa_cons (se_var 8) (sa_cons (se_var 5) sa_nil))))) (sg_sub (hu1 hr) (se_fld (b.fld 36 37 38) (se_var 0)) (se_tup (sa_cons (se_ix (hu1 hr) (se_var 4) se_int) (sa_cons (se_ix (hu1 hr) (se_var 4) se_int) sa_nil))))) (ss_cons (ss_asg (se_callL G_taken_worth (hr.mono (by decide)) (b.glo 48) kp_taken_worth b_taken_worth (takes_of rfl rfl rfl rfl) (sa_cons (se_ix (hu1 hr) (se_fld (b.fld 36 37 43) (se_var 0)) (se_var 3)) (sa_cons (se_var 7) sa_nil))) (sg_sub (hu1 hr) (se_fld (b.fld 36 37 43) (se_var 0)) (se_var 3))) (ss_one (ss_asg (se_gstr (by rfl) (b.str 45).choose_spec) (sg_sub (hu1 hr) (se_fld (b.fld 36 37 46) (se_var 0)) (se_var 3))))))) (ss_one (ss_if (st_cmp (or_eq (hu64 hr)) (se_var 2) se_str rfl) (ss_one (ss_asg (se_gstr (by rfl) (b.str 49).choose_spec) (sg_sub (hu1 hr) (se_fld (b.fld 36 37 46) (se_var 0)) (se_var 3)))) (ss_one (ss_if (st_cmp (or_eq (hu64 hr)) (se_var 2) se_str rfl) (ss_one (ss_asg (se_tup (sa_cons se_str (sa_cons (se_ix (hu1 hr) (se_var 4) se_int) sa_nil))) (sg_sub (hu1 hr) (se_fld (b.fld 36 37 46) (se_var 0)) (se_var 3)))) ss_nil))))))))) (ss_one (ss_expr (se_mt PySem.F.plainAttrs_list PySem.F.slot_list_append PySem.F.type_list_append mr_append (se_ix (hu1 hr) (se_fld (b.fld 36 37 42) (se_var 0)) (se_var 3)) (sa_cons (se_var 1) sa_nil)))))))
def Ok_Going_init (P : Program) (w : World) (K : PySem.W.Frag) (mg : Str → Option Value) (base : Heap) : Prop := ∃ fd, FnOk P w K mg base (L2.CX P w) 2 (He.fAd K ("Going", some "__init__")) fd ["self", "many"] (spF mg K 2 M_Going_init) ∧ PySem.W.keepIn K (.ref (He.fAd K ("Going", some "__init__"))) = true ∧ Binds K fd ["self", "many"] []
theorem ok_Going_init {base : Heap} (b : BG w K mg h)   : Ok_Going_init P w K mg base := by
  obtain ⟨fd, F⟩ := b.c.d.def_ 10 (d := d_Going_init) rfl
  refine ⟨fd, fnOkD F sc_Going_init (fun cdv A outer s H E hr => ?_), F.kp, F.bindsN fun _ _ _ _ _ _ us hl => match us, hl with | [_, _], _ => rfl⟩
  show SSs _ _ _ B_Going_init
  unfold B_Going_init
  exact (ss_cons (ss_fld (b.fld 36 37 43) (se_var 0) (se_op or_mul (se_lst (sa_cons se_int sa_nil)) (se_var 1))) (ss_cons (ss_fld (b.fld 36 37 46) (se_var 0) (se_op or_mul (se_lst (sa_cons (se_gstr (by rfl) (b.str 45).choose_spec) sa_nil)) (se_var 1))) (ss_cons (ss_fld (b.fld 36 37 42) (se_var 0) (se_lc rfl sc_Going_init.nd (blkOk_by (own := [("hand", 2)]) (by first | rfl | kernel_rfl)) (by decide) (si_rng1 (b.free 51) (se_var 1)) (fun s1 H1 C1 cl1 fp1 => (sh_nm 2 sc_Going_init.nd)) (fun s1 H1 C1 cl1 fp1 => sts_nil) (fun s1 H1 C1 cl1 fp1 => (se_lst sa_nil)))) (ss_cons (ss_fld (b.fld 36 37 44) (se_var 0) (se_op or_mul (se_lst (sa_cons se_int sa_nil)) (se_var 1))) (ss_one (ss_fld (b.fld 36 37 38) (se_var 0) se_dnewT))))))
def Ok_Town_going (P : Program) (w : World) (K : PySem.W.Frag) (mg : Str → Option Value) (base : Heap) : Prop := ∃ fd, FnOk P w K mg base (L2.CX P w) 4 (He.fAd K ("Town", some "going")) fd ["self"] (spF mg K 1 M_Town_going) ∧ PySem.W.keepIn K (.ref (He.fAd K ("Town", some "going"))) = true ∧ Binds K fd ["self"] []
theorem ok_Town_going {base : Heap} (b : BG w K mg h)  (o_Going_do : Ok_Going_do P w K mg base) (o_Going_init : Ok_Going_init P w K mg base) : Ok_Town_going P w K mg base := by
  obtain ⟨fd, F⟩ := b.c.d.def_ 11 (d := d_Town_going) rfl
  obtain ⟨fd_Going_do, G_Going_do, kp_Going_do, b_Going_do⟩ := o_Going_do
  obtain ⟨fd_Going_init, G_Going_init, kp_Going_init, b_Going_init⟩ := o_Going_init
  refine ⟨fd, fnOkD F sc_Town_going (fun cdv A outer s H E hr => ?_), F.kp, F.bindsN fun _ _ _ _ _ _ us hl => match us, hl with | [_], _ => rfl⟩
  show SSs _ _ _ B_Town_going
  unfold B_Town_going
  exact (ss_cons (ss_set 1 sc_Town_going.nd (se_make (b.mkr 52) G_Going_init (hr.mono (by decide)) (b.glo 36) b_Going_init (takes_of rfl rfl rfl rfl) (sa_cons (se_op or_add (se_fld (b.fld 0 1 3) (se_var 0)) se_int) sa_nil))) (ss_cons (ss_lockL (ss_for (passes_of rfl) rfl (si_seqF (se_fld (b.fld 0 1 8) (se_var 0))) (sg_tup rfl (sgs_cons (sg_name 2 sc_Town_going.nd) (sgs_cons (sg_name 3 sc_Town_going.nd) sgs_nil))) (ss_one (ss_expr (se_methL (se_var 1) (b.glo 36) (b.cls 37) (b.meth 50) G_Going_do (hr.mono (by decide)) b_Going_do (takes_of rfl rfl rfl rfl) (sa_cons (se_var 2) sa_nil))))) (mOp1 (opFld ["Town"] "rows") (mVar 0))) (ss_one (ss_ret (se_var 1)))))
def Ok_Bearing_init (P : Program) (w : World) (K : PySem.W.Frag) (mg : Str → Option Value) (base : Heap) : Prop := ∃ fd, FnOk P w K mg base (L2.CX P w) 2 (He.fAd K ("Bearing", some "__init__")) fd ["self", "many", "rows"] (spF mg K 3 M_Bearing_init) ∧ PySem.W.keepIn K (.ref (He.fAd K ("Bearing", some "__init__"))) = true ∧ Binds K fd ["self", "many", "rows"] []
theorem ok_Bearing_init {base : Heap} (b : BG w K mg h)   : Ok_Bearing_init P w K mg base := by
  obtain ⟨fd, F⟩ := b.c.d.def_ 12 (d := d_Bearing_init) rfl
  refine ⟨fd, fnOkD F sc_Bearing_init (fun cdv A outer s H E hr => ?_), F.kp, F.bindsN fun _ _ _ _ _ _ us hl => match us, hl with | [_, _, _], _ => rfl⟩
  show SSs _ _ _ B_Bearing_init
  unfold B_Bearing_init
  exact (ss_cons (ss_fld (b.fld 33 34 54) (se_var 0) (se_lc rfl sc_Bearing_init.nd (blkOk_by (own := [("hand", 7)]) (by first | rfl | kernel_rfl)) (by decide) (si_rng1 (b.free 51) (se_op or_add (se_var 1) se_int)) (fun s1 H1 C1 cl1 fp1 => (sh_nm 7 sc_Bearing_init.nd)) (fun s1 H1 C1 cl1 fp1 => sts_nil) (fun s1 H1 C1 cl1 fp1 => se_dnewT))) (ss_cons (ss_fld (b.fld 33 34 40) (se_var 0) se_dnewT) (ss_cons (ss_fld (b.fld 33 34 39) (se_var 0) se_dnewT) (ss_cons (ss_fld (b.fld 33 34 35) (se_var 0) se_dnewT) (ss_cons (ss_set 3 sc_Bearing_init.nd (se_op or_mul (se_lst (sa_cons se_int sa_nil)) (se_op or_add (se_var 1) se_int))) (ss_one (ss_lockL (ss_for (passes_of rfl) rfl (si_seqF (se_var 2)) (sg_tup rfl (sgs_cons (sg_name 4 sc_Bearing_init.nd) (sgs_cons (sg_name 5 sc_Bearing_init.nd) sgs_nil))) (ss_cons (ss_asg (se_var 4) (sg_tupS rfl (sgs_cons (sg_name 6 sc_Bearing_init.nd) (sgs_cons (sg_name 7 sc_Bearing_init.nd) (sgs_star (sg_name 8 sc_Bearing_init.nd) sgs_nil))))) (ss_cons (ss_if (st_w (sw_and (st_cmp or_ltX (se_var 7) (se_var 1) rfl) (sw_and1 (st_cmp or_gtX (se_var 5) se_int rfl)))) (ss_one (ss_asg se_bl (sg_sub (hu1 hr) (se_ix (hu1 hr) (se_fld (b.fld 33 34 54) (se_var 0)) (se_var 7)) (se_tup (sa_cons (se_var 7) (sa_cons (se_var 5) sa_nil)))))) ss_nil) (ss_one (ss_if (st_cmp (or_eq (hu64 hr)) (se_var 6) se_str rfl) (ss_cons (ss_expr (se_mt PySem.F.plainAttrs_dict PySem.F.slot_dict_update PySem.F.type_dict_update (mr_update (hu1 hr)) (se_ix (hu1 hr) (se_fld (b.fld 33 34 54) (se_var 0)) (se_var 7)) (sa_cons (se_ix (hu1 hr) (se_fld (b.fld 33 34 40) (se_var 0)) (se_tup (sa_cons (se_ix (hu1 hr) (se_var 8) se_int) (sa_cons (se_ix (hu1 hr) (se_var 8) se_int) sa_nil)))) sa_nil))) (ss_one (ss_asg (se_tup (sa_cons (se_var 7) (sa_cons (se_var 5) sa_nil))) (sg_sub (hu1 hr) (se_fld (b.fld 33 34 35) (se_var 0)) (se_tup (sa_cons (se_ix (hu1 hr) (se_var 8) se_int) (sa_cons (se_ix (hu1 hr) (se_var 8) se_int) sa_nil))))))) (ss_one (ss_if (st_cmp (or_eq (hu64 hr)) (se_var 6) se_str rfl) (ss_cons (ss_asg (se_bty (cr_dictD (hu2 hr)) (by rfl) (b.free 55) bt_dict (sa_cons (se_ix (hu1 hr) (se_fld (b.fld 33 34 54) (se_var 0)) (se_var 7)) sa_nil)) (sg_sub (hu1 hr) (se_fld (b.fld 33 34 40) (se_var 0)) (se_tup (sa_cons (se_var 7) (sa_cons (se_ix (hu1 hr) (se_var 3) (se_var 7)) sa_nil))))) (ss_cons (ss_asg (se_tup (sa_cons (se_var 7) (sa_cons (se_var 5) sa_nil))) (sg_sub (hu1 hr) (se_fld (b.fld 33 34 39) (se_var 0)) (se_tup (sa_cons (se_var 7) (sa_cons (se_ix (hu1 hr) (se_var 3) (se_var 7)) sa_nil))))) (ss_one (ss_augS (hu1 hr) ipr_add (se_var 3) (se_var 7) se_int)))) ss_nil))))))) (mVar 2))))))))
def Ok_Town_bearing (P : Program) (w : World) (K : PySem.W.Frag) (mg : Str → Option Value) (base : Heap) : Prop := ∃ fd, FnOk P w K mg base (L2.CX P w) 4 (He.fAd K ("Town", some "bearing")) fd ["self"] (spF mg K 1 M_Town_bearing) ∧ PySem.W.keepIn K (.ref (He.fAd K ("Town", some "bearing"))) = true ∧ Binds K fd ["self"] []
theorem ok_Town_bearing {base : Heap} (b : BG w K mg h)  (o_Bearing_init : Ok_Bearing_init P w K mg base) : Ok_Town_bearing P w K mg base := by
  obtain ⟨fd, F⟩ := b.c.d.def_ 13 (d := d_Town_bearing) rfl
  obtain ⟨fd_Bearing_init, G_Bearing_init, kp_Bearing_init, b_Bearing_init⟩ := o_Bearing_init
  refine ⟨fd, fnOkD F sc_Town_bearing (fun cdv A outer s H E hr => ?_), F.kp, F.bindsN fun _ _ _ _ _ _ us hl => match us, hl with | [_], _ => rfl⟩
  show SSs _ _ _ B_Town_bearing
  unfold B_Town_bearing
  exact (ss_one (ss_ret (se_make (b.mkr 56) G_Bearing_init (hr.mono (by decide)) (b.glo 33) b_Bearing_init (takes_of rfl rfl rfl rfl) (sa_cons (se_fld (b.fld 0 1 3) (se_var 0)) (sa_cons (se_fld (b.fld 0 1 8) (se_var 0)) sa_nil)))))
def Ok_Town_tell (P : Program) (w : World) (K : PySem.W.Frag) (mg : Str → Option Value) (base : Heap) : Prop := ∃ fd, FnOk P w K mg base (L2.CX P w) 5 (He.fAd K ("Town", some "tell")) fd ["self"] (spF mg K 1 M_Town_tell) ∧ PySem.W.keepIn K (.ref (He.fAd K ("Town", some "tell"))) = true ∧ Binds K fd ["self"] []
theorem ok_Town_tell {base : Heap} (b : BG w K mg h)  (o_Town_first_untold : Ok_Town_first_untold P w K mg base) (o_Town_going : Ok_Town_going P w K mg base) (o_Town_bearing : Ok_Town_bearing P w K mg base) : Ok_Town_tell P w K mg base := by
  obtain ⟨fd, F⟩ := b.c.d.def_ 14 (d := d_Town_tell) rfl
  obtain ⟨fd_Town_first_untold, G_Town_first_untold, kp_Town_first_untold, b_Town_first_untold⟩ := o_Town_first_untold
  obtain ⟨fd_Town_going, G_Town_going, kp_Town_going, b_Town_going⟩ := o_Town_going
  obtain ⟨fd_Town_bearing, G_Town_bearing, kp_Town_bearing, b_Town_bearing⟩ := o_Town_bearing
  refine ⟨fd, fnOkD F sc_Town_tell (fun cdv A outer s H E hr => ?_), F.kp, F.bindsN fun _ _ _ _ _ _ us hl => match us, hl with | [_], _ => rfl⟩
  show SSs _ _ _ B_Town_tell
  unfold B_Town_tell
  exact (ss_cons (ss_set 1 sc_Town_tell.nd (se_methL0 (se_var 0) (b.glo 0) (b.cls 1) (b.meth 57) G_Town_bearing (hr.mono (by decide)) b_Town_bearing (takes_of rfl rfl rfl rfl))) (ss_cons (ss_set 2 sc_Town_tell.nd (se_fld (b.fld 0 1 7) (se_var 0))) (ss_cons (ss_set 3 sc_Town_tell.nd (se_methL0 (se_var 0) (b.glo 0) (b.cls 1) (b.meth 53) G_Town_going (hr.mono (by decide)) b_Town_going (takes_of rfl rfl rfl rfl))) (ss_one (ss_for (passes_of rfl) rfl (si_seqF (se_frzL (se_bty cr_list (by rfl) (b.free 30) bt_list (sa_cons (se_fld (b.fld 0 1 8) (se_var 0)) sa_nil)))) (sg_tup rfl (sgs_cons (sg_name 4 sc_Town_tell.nd) (sgs_cons (sg_name 5 sc_Town_tell.nd) sgs_nil))) (ss_one (ss_if (st_w (sw_and (st_cmp (or_eq (hu64 hr)) (se_ix (hu1 hr) (se_var 4) se_int) se_str rfl) (sw_and1 (st_cmp (or_eq (hu64 hr)) (se_ix (hu1 hr) (se_var 4) se_int) (se_fld (b.fld 0 1 3) (se_var 0)) rfl)))) (ss_cons (ss_set 6 sc_Town_tell.nd (se_methL (se_var 0) (b.glo 0) (b.cls 1) (b.meth 41) G_Town_first_untold (hr.mono (by decide)) b_Town_first_untold (takes_of rfl rfl rfl rfl) (sa_cons (se_var 1) (sa_cons (se_ix (hu1 hr) (se_var 4) se_int) (sa_cons (se_var 5) (sa_cons (se_var 2) (sa_cons (se_var 3) sa_nil))))))) (ss_one (ss_if (st_cmp or_notN (se_var 6) se_non rfl) (ss_cons (ss_expr (se_mt PySem.F.plainAttrs_list PySem.F.slot_list_append PySem.F.type_list_append mr_append (se_fld (b.fld 0 1 8) (se_var 0)) (sa_cons (se_tup (sa_cons (se_tup (sa_cons se_str (sa_cons (se_fld (b.fld 0 1 3) (se_var 0)) (sa_cons (se_ix (hu1 hr) (se_var 6) se_int) (sa_cons (se_ix (hu1 hr) (se_var 6) se_int) sa_nil))))) (sa_cons se_int sa_nil))) sa_nil))) (ss_cons (ss_expr (se_mt PySem.F.plainAttrs_list PySem.F.slot_list_append PySem.F.type_list_append mr_append (se_fld (b.fld 0 1 6) (se_var 0)) (sa_cons (se_tup (sa_cons (se_ix (hu1 hr) (se_var 6) se_int) (sa_cons (se_ix (hu1 hr) (se_var 6) se_int) (sa_cons (se_ix (hu1 hr) (se_ix (hu1 hr) (se_fld (b.fld 36 37 38) (se_var 3)) (se_var 6)) se_int) sa_nil)))) sa_nil))) (ss_one (ss_asg (se_tup (sa_cons (se_fld (b.fld 0 1 3) (se_var 0)) (sa_cons se_int sa_nil))) (sg_sub (hu1 hr) (se_fld (b.fld 33 34 35) (se_var 1)) (se_var 6)))))) ss_nil))) ss_nil)))))))
def Ok_Town_put (P : Program) (w : World) (K : PySem.W.Frag) (mg : Str → Option Value) (base : Heap) : Prop := ∃ fd, FnOk P w K mg base (L2.CX P w) 2 (He.fAd K ("Town", some "put")) fd ["self", "hand", "worth"] (spF mg K 3 M_Town_put) ∧ PySem.W.keepIn K (.ref (He.fAd K ("Town", some "put"))) = true ∧ Binds K fd ["self", "hand", "worth"] []
theorem ok_Town_put {base : Heap} (b : BG w K mg h)   : Ok_Town_put P w K mg base := by
  obtain ⟨fd, F⟩ := b.c.d.def_ 15 (d := d_Town_put) rfl
  refine ⟨fd, fnOkD F sc_Town_put (fun cdv A outer s H E hr => ?_), F.kp, F.bindsN fun _ _ _ _ _ _ us hl => match us, hl with | [_, _, _], _ => rfl⟩
  show SSs _ _ _ B_Town_put
  unfold B_Town_put
  exact (ss_cons (ss_expr (se_mt PySem.F.plainAttrs_list PySem.F.slot_list_append PySem.F.type_list_append mr_append (se_fld (b.fld 0 1 8) (se_var 0)) (sa_cons (se_tup (sa_cons (se_tup (sa_cons se_str (sa_cons (se_fld (b.fld 0 1 3) (se_var 0)) (sa_cons (se_var 2) sa_nil)))) (sa_cons se_int sa_nil))) sa_nil))) (ss_one (ss_expr (se_mt PySem.F.plainAttrs_list PySem.F.slot_list_append PySem.F.type_list_append mr_append (se_fld (b.fld 0 1 8) (se_var 0)) (sa_cons (se_tup (sa_cons (se_tup (sa_cons se_str (sa_cons (se_fld (b.fld 0 1 3) (se_var 0)) (sa_cons (se_var 1) sa_nil)))) (sa_cons se_int sa_nil))) sa_nil)))))
def Ok_Town_count_of (P : Program) (w : World) (K : PySem.W.Frag) (mg : Str → Option Value) (base : Heap) : Prop := ∃ fd, FnOk P w K mg base (L2.CX P w) 2 (He.fAd K ("Town", some "count_of")) fd ["self", "hand"] (spF mg K 2 M_Town_count_of) ∧ PySem.W.keepIn K (.ref (He.fAd K ("Town", some "count_of"))) = true ∧ Binds K fd ["self", "hand"] []
theorem ok_Town_count_of {base : Heap} (b : BG w K mg h)   : Ok_Town_count_of P w K mg base := by
  obtain ⟨fd, F⟩ := b.c.d.def_ 16 (d := d_Town_count_of) rfl
  refine ⟨fd, fnOkD F sc_Town_count_of (fun cdv A outer s H E hr => ?_), F.kp, F.bindsN fun _ _ _ _ _ _ us hl => match us, hl with | [_, _], _ => rfl⟩
  show SSs _ _ _ B_Town_count_of
  unfold B_Town_count_of
  exact (ss_one (ss_ret (se_blt cr_len (by rfl) (b.free 9) bb_len (sa_cons (se_lockL (se_lc rfl sc_Town_count_of.nd (blkOk_by (own := [("deed", 2), ("step", 3)]) (by first | rfl | kernel_rfl)) (by decide) (si_seqF (se_fld (b.fld 0 1 8) (se_var 0))) (fun s1 H1 C1 cl1 fp1 => (sh_tp rfl (shs_cons 2 sc_Town_count_of.nd (shs_cons 3 sc_Town_count_of.nd shs_nil)))) (fun s1 H1 C1 cl1 fp1 => (sts_one (st_w (sw_and (st_cmp (or_eq (hu64 hr)) (se_ix (hu1 hr) (se_var 2) se_int) se_str rfl) (sw_and1 (st_cmp (or_eq (hu64 hr)) (se_ix (hu1 hr) (se_var 2) se_int) (se_var 1) rfl)))))) (fun s1 H1 C1 cl1 fp1 => (se_var 3))) (mOp1 (opFld ["Town"] "rows") (mVar 0))) sa_nil))))
def Ok_Town_send_all (P : Program) (w : World) (K : PySem.W.Frag) (mg : Str → Option Value) (base : Heap) : Prop := ∃ fd, FnOk P w K mg base (L2.CX P w) 5 (He.fAd K ("Town", some "send_all")) fd ["self", "hand"] (spF mg K 2 M_Town_send_all) ∧ PySem.W.keepIn K (.ref (He.fAd K ("Town", some "send_all"))) = true ∧ Binds K fd ["self", "hand"] []
theorem ok_Town_send_all {base : Heap} (b : BG w K mg h)  (o_Town_count_of : Ok_Town_count_of P w K mg base) (o_Town_going : Ok_Town_going P w K mg base) : Ok_Town_send_all P w K mg base := by
  obtain ⟨fd, F⟩ := b.c.d.def_ 17 (d := d_Town_send_all) rfl
  obtain ⟨fd_Town_count_of, G_Town_count_of, kp_Town_count_of, b_Town_count_of⟩ := o_Town_count_of
  obtain ⟨fd_Town_going, G_Town_going, kp_Town_going, b_Town_going⟩ := o_Town_going
  refine ⟨fd, fnOkD F sc_Town_send_all (fun cdv A outer s H E hr => ?_), F.kp, F.bindsN fun _ _ _ _ _ _ us hl => match us, hl with | [_, _], _ => rfl⟩
  show SSs _ _ _ B_Town_send_all
  unfold B_Town_send_all
  exact (ss_cons (ss_set 2 sc_Town_send_all.nd (se_ix (hu1 hr) (se_fld (b.fld 0 1 11) (se_var 0)) (se_var 1))) (ss_cons (ss_set 3 sc_Town_send_all.nd (se_ix (hu1 hr) (se_var 2) (se_op or_mod (se_ix (hu1 hr) (se_fld (b.fld 36 37 43) (se_methL0 (se_var 0) (b.glo 0) (b.cls 1) (b.meth 53) G_Town_going (hr.mono (by decide)) b_Town_going (takes_of rfl rfl rfl rfl))) (se_var 1)) (se_blt cr_len (by rfl) (b.free 9) bb_len (sa_cons (se_var 2) sa_nil))))) (ss_one (ss_expr (se_mt PySem.F.plainAttrs_list PySem.F.slot_list_extend PySem.F.type_list_extend mr_extend (se_fld (b.fld 0 1 8) (se_var 0)) (sa_cons (se_lockL (se_lc rfl sc_Town_send_all.nd (blkOk_by (own := [("to", 4)]) (by first | rfl | kernel_rfl)) (by decide) (si_seqF (se_var 3)) (fun s1 H1 C1 cl1 fp1 => (sh_nm 4 sc_Town_send_all.nd)) (fun s1 H1 C1 cl1 fp1 => sts_nil) (fun s1 H1 C1 cl1 fp1 => (se_tup (sa_cons (se_tup (sa_cons se_str (sa_cons (se_var 1) (sa_cons (se_var 4) sa_nil)))) (sa_cons (se_methL (se_var 0) (b.glo 0) (b.cls 1) (b.meth 61) G_Town_count_of (hr.mono (by decide)) b_Town_count_of takes0 (sa_cons (se_var 1) sa_nil)) sa_nil))))) (mVar 3)) sa_nil))))))
def Ok_Going_can (P : Program) (w : World) (K : PySem.W.Frag) (mg : Str → Option Value) (base : Heap) : Prop := ∃ fd, FnOk P w K mg base (L2.CX P w) 2 (He.fAd K ("Going", some "can")) fd ["self", "deed"] (spF mg K 2 M_Going_can) ∧ PySem.W.keepIn K (.ref (He.fAd K ("Going", some "can"))) = true ∧ Binds K fd ["self", "deed"] []
theorem ok_Going_can {base : Heap} (b : BG w K mg h)   : Ok_Going_can P w K mg base := by
  obtain ⟨fd, F⟩ := b.c.d.def_ 18 (d := d_Going_can) rfl
  refine ⟨fd, fnOkD F sc_Going_can (fun cdv A outer s H E hr => ?_), F.kp, F.bindsN fun _ _ _ _ _ _ us hl => match us, hl with | [_, _], _ => rfl⟩
  show SSs _ _ _ B_Going_can
  unfold B_Going_can
  exact (ss_cons (ss_asg (se_var 1) (sg_tupS rfl (sgs_cons (sg_name 2 sc_Going_can.nd) (sgs_cons (sg_name 3 sc_Going_can.nd) (sgs_star (sg_name 4 sc_Going_can.nd) sgs_nil))))) (ss_cons (ss_set 5 sc_Going_can.nd (se_ix (hu1 hr) (se_fld (b.fld 36 37 46) (se_var 0)) (se_var 3))) (ss_cons (ss_if (st_cmp (or_eq (hu64 hr)) (se_var 2) se_str rfl) (ss_one (ss_ret se_bl)) ss_nil) (ss_cons (ss_if (st_cmp (or_ne (hu64 hr)) (se_var 2) se_str rfl) (ss_one (ss_ret (se_cmp (or_eq (hu64 hr)) (se_var 5) (se_gstr (by rfl) (b.str 45).choose_spec) rfl))) ss_nil) (ss_cons (ss_set 6 sc_Going_can.nd (se_dget (hu1 hr) (se_fld (b.fld 36 37 38) (se_var 0)) (se_tup (sa_cons (se_ix (hu1 hr) (se_var 4) se_int) (sa_cons (se_ix (hu1 hr) (se_var 4) se_int) sa_nil))))) (ss_cons (ss_if (st_w (sw_or (st_cmp or_isN (se_var 6) se_non rfl) (sw_or (st_cmp (or_ne (hu64 hr)) (se_ix (hu1 hr) (se_var 6) se_int) (se_var 3) rfl) (sw_or1 (st_cmp or_notN (se_ix (hu1 hr) (se_var 6) se_int) se_non rfl))))) (ss_one (ss_ret se_bl)) ss_nil) (ss_one (ss_ret (se_or (se_cmp (or_in (hu65 hr)) (se_var 5) (se_tup (sa_cons (se_gstr (by rfl) (b.str 45).choose_spec) (sa_cons (se_gstr (by rfl) (b.str 49).choose_spec) sa_nil))) rfl) (se_one (se_cmp (or_eq (hu64 hr)) (se_ix (hu1 hr) (se_var 5) se_int) (se_ix (hu1 hr) (se_var 4) se_int) rfl)))))))))))
def Ok_Town_step (P : Program) (w : World) (K : PySem.W.Frag) (mg : Str → Option Value) (base : Heap) : Prop := ∃ fd, FnOk P w K mg base (L2.CX P w) 6 (He.fAd K ("Town", some "step")) fd ["self", "hand", "other", "number"] (spF mg K 4 M_Town_step) ∧ PySem.W.keepIn K (.ref (He.fAd K ("Town", some "step"))) = true ∧ Binds K fd ["self", "hand", "other", "number"] []
theorem ok_Town_step {base : Heap} (b : BG w K mg h)  (o_Town_send_all : Ok_Town_send_all P w K mg base) (o_Town_count_of : Ok_Town_count_of P w K mg base) (o_Going_can : Ok_Going_can P w K mg base) (o_Town_going : Ok_Town_going P w K mg base) : Ok_Town_step P w K mg base := by
  obtain ⟨fd, F⟩ := b.c.d.def_ 19 (d := d_Town_step) rfl
  obtain ⟨fd_Town_send_all, G_Town_send_all, kp_Town_send_all, b_Town_send_all⟩ := o_Town_send_all
  obtain ⟨fd_Town_count_of, G_Town_count_of, kp_Town_count_of, b_Town_count_of⟩ := o_Town_count_of
  obtain ⟨fd_Going_can, G_Going_can, kp_Going_can, b_Going_can⟩ := o_Going_can
  obtain ⟨fd_Town_going, G_Town_going, kp_Town_going, b_Town_going⟩ := o_Town_going
  refine ⟨fd, fnOkD F sc_Town_step (fun cdv A outer s H E hr => ?_), F.kp, F.bindsN fun _ _ _ _ _ _ us hl => match us, hl with | [_, _, _, _], _ => rfl⟩
  show SSs _ _ _ B_Town_step
  unfold B_Town_step
  exact (ss_cons (ss_set 4 sc_Town_step.nd (se_tup (sa_cons se_str (sa_cons (se_var 1) (sa_cons (se_var 2) (sa_cons (se_var 3) sa_nil)))))) (ss_cons (ss_if (st_w (sw_or (st_cmp (or_eq (hu64 hr)) (se_var 2) (se_var 1) rfl) (sw_or1 (st_not (st_val (se_methL (se_methL0 (se_var 0) (b.glo 0) (b.cls 1) (b.meth 53) G_Town_going (hr.mono (by decide)) b_Town_going (takes_of rfl rfl rfl rfl)) (b.glo 36) (b.cls 37) (b.meth 63) G_Going_can (hr.mono (by decide)) b_Going_can (takes_of rfl rfl rfl rfl) (sa_cons (se_var 4) sa_nil))))))) (ss_one ss_never) ss_nil) (ss_cons (ss_if (st_w (sw_and (st_cmp (or_eq (hu64 hr)) (se_fld (b.fld 0 1 10) (se_var 0)) (se_gstr (by rfl) (b.str 60).choose_spec) rfl) (sw_and1 (st_cmp or_ltX (se_ix (hu1 hr) (se_fld (b.fld 0 1 7) (se_var 0)) (se_var 1)) (se_methL (se_var 0) (b.glo 0) (b.cls 1) (b.meth 61) G_Town_count_of (hr.mono (by decide)) b_Town_count_of (takes_of rfl rfl rfl rfl) (sa_cons (se_var 1) sa_nil)) rfl)))) (ss_one ss_never) ss_nil) (ss_cons (ss_expr (se_mt PySem.F.plainAttrs_list PySem.F.slot_list_append PySem.F.type_list_append mr_append (se_fld (b.fld 0 1 8) (se_var 0)) (sa_cons (se_tup (sa_cons (se_var 4) (sa_cons (se_op or_add (se_methL (se_var 0) (b.glo 0) (b.cls 1) (b.meth 61) G_Town_count_of (hr.mono (by decide)) b_Town_count_of (takes_of rfl rfl rfl rfl) (sa_cons (se_var 1) sa_nil)) se_int) sa_nil))) sa_nil))) (ss_one (ss_if (st_cmp (or_ne (hu64 hr)) (se_fld (b.fld 0 1 10) (se_var 0)) (se_gstr (by rfl) (b.str 60).choose_spec) rfl) (ss_one (ss_expr (se_methL (se_var 0) (b.glo 0) (b.cls 1) (b.meth 62) G_Town_send_all (hr.mono (by decide)) b_Town_send_all (takes_of rfl rfl rfl rfl) (sa_cons (se_var 1) sa_nil)))) ss_nil))))))
def Ok_Town_write (P : Program) (w : World) (K : PySem.W.Frag) (mg : Str → Option Value) (base : Heap) : Prop := ∃ fd, FnOk P w K mg base (L2.CX P w) 6 (He.fAd K ("Town", some "write")) fd ["self", "hand"] (spF mg K 2 M_Town_write) ∧ PySem.W.keepIn K (.ref (He.fAd K ("Town", some "write"))) = true ∧ Binds K fd ["self", "hand"] []
theorem ok_Town_write {base : Heap} (b : BG w K mg h)  (o_Town_send_all : Ok_Town_send_all P w K mg base) : Ok_Town_write P w K mg base := by
  obtain ⟨fd, F⟩ := b.c.d.def_ 20 (d := d_Town_write) rfl
  obtain ⟨fd_Town_send_all, G_Town_send_all, kp_Town_send_all, b_Town_send_all⟩ := o_Town_send_all
  refine ⟨fd, fnOkD F sc_Town_write (fun cdv A outer s H E hr => ?_), F.kp, F.bindsN fun _ _ _ _ _ _ us hl => match us, hl with | [_, _], _ => rfl⟩
  show SSs _ _ _ B_Town_write
  unfold B_Town_write
  exact (ss_cons (ss_augS (hu1 hr) ipr_add (se_fld (b.fld 0 1 7) (se_var 0)) (se_var 1) se_int) (ss_one (ss_if (st_cmp (or_eq (hu64 hr)) (se_fld (b.fld 0 1 10) (se_var 0)) (se_gstr (by rfl) (b.str 60).choose_spec) rfl) (ss_one (ss_expr (se_methL (se_var 0) (b.glo 0) (b.cls 1) (b.meth 62) G_Town_send_all (hr.mono (by decide)) b_Town_send_all (takes_of rfl rfl rfl rfl) (sa_cons (se_var 1) sa_nil)))) ss_nil)))
def Ok_Town_back_by (P : Program) (w : World) (K : PySem.W.Frag) (mg : Str → Option Value) (base : Heap) : Prop := ∃ fd, FnOk P w K mg base (L2.CX P w) 3 (He.fAd K ("Town", some "back_by")) fd ["self", "kept"] (spF mg K 2 M_Town_back_by) ∧ PySem.W.keepIn K (.ref (He.fAd K ("Town", some "back_by"))) = true ∧ Binds K fd ["self", "kept"] []
theorem ok_Town_back_by {base : Heap} (b : BG w K mg h)  (o_Town_count_of : Ok_Town_count_of P w K mg base) : Ok_Town_back_by P w K mg base := by
  obtain ⟨fd, F⟩ := b.c.d.def_ 21 (d := d_Town_back_by) rfl
  obtain ⟨fd_Town_count_of, G_Town_count_of, kp_Town_count_of, b_Town_count_of⟩ := o_Town_count_of
  refine ⟨fd, fnOkD F sc_Town_back_by (fun cdv A outer s H E hr => ?_), F.kp, F.bindsN fun _ _ _ _ _ _ us hl => match us, hl with | [_, _], _ => rfl⟩
  show SSs _ _ _ B_Town_back_by
  unfold B_Town_back_by
  exact (ss_one (ss_ret (se_bty cr_tuple (by rfl) (b.free 21) bt_tuple (sa_cons (se_lc rfl sc_Town_back_by.nd (blkOk_by (own := [("hand", 2), ("many", 3)]) (by first | rfl | kernel_rfl)) (by decide) (si_enum (b.free 15) (se_var 1)) (fun s1 H1 C1 cl1 fp1 => (sh_tp rfl (shs_cons 2 sc_Town_back_by.nd (shs_cons 3 sc_Town_back_by.nd shs_nil)))) (fun s1 H1 C1 cl1 fp1 => sts_nil) (fun s1 H1 C1 cl1 fp1 => (se_op or_sub (se_methL (se_var 0) (b.glo 0) (b.cls 1) (b.meth 61) G_Town_count_of (hr.mono (by decide)) b_Town_count_of takes0 (sa_cons (se_var 2) sa_nil)) (se_var 3)))) sa_nil))))
def Ok_Town_cut_down (P : Program) (w : World) (K : PySem.W.Frag) (mg : Str → Option Value) (base : Heap) : Prop := ∃ fd, FnOk P w K mg base (L2.CX P w) 2 (He.fAd K ("Town", some "cut_down")) fd ["self", "bearing", "most"] (spF mg K 3 M_Town_cut_down) ∧ PySem.W.keepIn K (.ref (He.fAd K ("Town", some "cut_down"))) = true ∧ Binds K fd ["self", "bearing", "most"] []
theorem ok_Town_cut_down {base : Heap} (b : BG w K mg h)   : Ok_Town_cut_down P w K mg base := by
  obtain ⟨fd, F⟩ := b.c.d.def_ 22 (d := d_Town_cut_down) rfl
  refine ⟨fd, fnOkD F sc_Town_cut_down (fun cdv A outer s H E hr => ?_), F.kp, F.bindsN fun _ _ _ _ _ _ us hl => match us, hl with | [_, _, _], _ => rfl⟩
  show SSs _ _ _ B_Town_cut_down
  unfold B_Town_cut_down
  exact (ss_cons (ss_set 3 sc_Town_cut_down.nd (se_bty cr_list (by rfl) (b.free 30) bt_list (sa_cons (se_var 2) sa_nil))) (ss_cons (ss_set 4 sc_Town_cut_down.nd se_bl) (ss_cons (ss_while (passes_of rfl) (st_val (se_var 4)) (ss_cons (ss_set 4 sc_Town_cut_down.nd se_bl) (ss_one (ss_lock (ss_for (passes_of rfl) rfl (si_items (se_fld (b.fld 33 34 35) (se_var 1))) (sg_tup rfl (sgs_cons (sg_name 5 sc_Town_cut_down.nd) (sgs_cons (sg_tup rfl (sgs_cons (sg_name 6 sc_Town_cut_down.nd) (sgs_cons (sg_name 7 sc_Town_cut_down.nd) sgs_nil))) sgs_nil))) (ss_cons (ss_asg (se_ix (hu1 hr) (se_fld (b.fld 33 34 39) (se_var 1)) (se_var 5)) (sg_tup rfl (sgs_cons (sg_name 8 sc_Town_cut_down.nd) (sgs_cons (sg_name 9 sc_Town_cut_down.nd) sgs_nil)))) (ss_one (ss_if (st_w (sw_and (st_cmp or_ltX (se_var 6) (se_fld (b.fld 0 1 3) (se_var 0)) rfl) (sw_and (st_cmp or_leX (se_var 7) (se_ix (hu1 hr) (se_var 3) (se_var 6)) rfl) (sw_and (st_cmp or_ltX (se_var 8) (se_fld (b.fld 0 1 3) (se_var 0)) rfl) (sw_and1 (st_cmp or_gtX (se_var 9) (se_ix (hu1 hr) (se_var 3) (se_var 8)) rfl)))))) (ss_cons (ss_asg (se_op or_sub (se_var 7) se_int) (sg_sub (hu1 hr) (se_var 3) (se_var 6))) (ss_one (ss_set 4 sc_Town_cut_down.nd se_bl))) ss_nil)))) (mOp1 (opFld ["Bearing"] "takers") (mVar 1)))))) (ss_one (ss_ret (se_var 3))))))
def Ok_Town_kept_by (P : Program) (w : World) (K : PySem.W.Frag) (mg : Str → Option Value) (base : Heap) : Prop := ∃ fd, FnOk P w K mg base (L2.CX P w) 5 (He.fAd K ("Town", some "kept_by")) fd ["self", "fallen", "knowing"] (spF mg K 3 M_Town_kept_by) ∧ PySem.W.keepIn K (.ref (He.fAd K ("Town", some "kept_by"))) = true ∧ Binds K fd ["self", "fallen", "knowing"] []
theorem ok_Town_kept_by {base : Heap} (b : BG w K mg h)  (o_Town_cut_down : Ok_Town_cut_down P w K mg base) (o_Town_count_of : Ok_Town_count_of P w K mg base) (o_Town_bearing : Ok_Town_bearing P w K mg base) : Ok_Town_kept_by P w K mg base := by
  obtain ⟨fd, F⟩ := b.c.d.def_ 23 (d := d_Town_kept_by) rfl
  obtain ⟨fd_Town_cut_down, G_Town_cut_down, kp_Town_cut_down, b_Town_cut_down⟩ := o_Town_cut_down
  obtain ⟨fd_Town_count_of, G_Town_count_of, kp_Town_count_of, b_Town_count_of⟩ := o_Town_count_of
  obtain ⟨fd_Town_bearing, G_Town_bearing, kp_Town_bearing, b_Town_bearing⟩ := o_Town_bearing
  refine ⟨fd, fnOkD F sc_Town_kept_by (fun cdv A outer s H E hr => ?_), F.kp, F.bindsN fun _ _ _ _ _ _ us hl => match us, hl with | [_, _, _], _ => rfl⟩
  show SSs _ _ _ B_Town_kept_by
  unfold B_Town_kept_by
  exact (ss_cons (ss_set 3 sc_Town_kept_by.nd (se_methL0 (se_var 0) (b.glo 0) (b.cls 1) (b.meth 57) G_Town_bearing (hr.mono (by decide)) b_Town_bearing (takes_of rfl rfl rfl rfl))) (ss_cons (ss_set 4 sc_Town_kept_by.nd se_dnewT) (ss_cons (ss_for (passes_of rfl) rfl (si_rng1 (b.free 51) (se_fld (b.fld 0 1 3) (se_var 0))) (sg_name 5 sc_Town_kept_by.nd) (ss_one (ss_if (st_w (sw_and (st_val (se_var 2)) (sw_and1 (st_cmp (or_notIn (hu65 hr)) (se_var 5) (se_var 1) rfl)))) (ss_one (ss_expr (se_mt PySem.F.plainAttrs_dict PySem.F.slot_dict_update PySem.F.type_dict_update (mr_update (hu1 hr)) (se_var 4) (sa_cons (se_ix (hu1 hr) (se_fld (b.fld 33 34 54) (se_var 3)) (se_var 5)) sa_nil)))) ss_nil))) (ss_cons (ss_set 6 sc_Town_kept_by.nd (se_lst sa_nil)) (ss_cons (ss_for (passes_of rfl) rfl (si_rng1 (b.free 51) (se_fld (b.fld 0 1 3) (se_var 0))) (sg_name 5 sc_Town_kept_by.nd) (ss_cons (ss_set 7 sc_Town_kept_by.nd (se_methL (se_var 0) (b.glo 0) (b.cls 1) (b.meth 61) G_Town_count_of (hr.mono (by decide)) b_Town_count_of (takes_of rfl rfl rfl rfl) (sa_cons (se_var 5) sa_nil))) (ss_cons (ss_if (st_cmp (or_in (hu65 hr)) (se_var 5) (se_var 1) rfl) (ss_cons (ss_set 8 sc_Town_kept_by.nd (se_op or_add (se_ix (hu1 hr) (se_fld (b.fld 0 1 7) (se_var 0)) (se_var 5)) se_int)) (ss_cons (ss_setLc 9 rfl sc_Town_kept_by.nd (blkOk_by (own := [("step", 10)]) (by first | rfl | kernel_rfl)) (by decide) (si_rng2 (b.free 51) (se_var 8) (se_op or_add (se_var 7) se_int)) (fun s1 H1 C1 cl1 fp1 => (sh_nm 10 sc_Town_kept_by.nd)) (fun s1 H1 C1 cl1 fp1 => (sts_one (st_cmp (or_notIn (hu65 hr)) (se_tup (sa_cons (se_var 5) (sa_cons (se_var 10) sa_nil))) (se_var 4) rfl))) (fun s1 H1 C1 cl1 fp1 => (se_var 10))) (ss_one (ss_set 7 sc_Town_kept_by.nd (se_op or_sub (se_kw1 (cr_minD (by rfl) (hu17 hr)) (by rfl) (b.free 67) bb_min (se_var 9) (se_op or_add (se_var 7) se_int)) se_int))))) ss_nil) (ss_one (ss_expr (se_mt PySem.F.plainAttrs_list PySem.F.slot_list_append PySem.F.type_list_append mr_append (se_var 6) (sa_cons (se_var 7) sa_nil))))))) (ss_one (ss_ret (se_methL (se_var 0) (b.glo 0) (b.cls 1) (b.meth 69) G_Town_cut_down (hr.mono (by decide)) b_Town_cut_down (takes_of rfl rfl rfl rfl) (sa_cons (se_var 3) (sa_cons (se_var 6) sa_nil))))))))))
def Ok_Town_fall (P : Program) (w : World) (K : PySem.W.Frag) (mg : Str → Option Value) (base : Heap) : Prop := ∃ fd, FnOk P w K mg base (L2.CX P w) 6 (He.fAd K ("Town", some "fall")) fd ["self", "fallen"] (spF mg K 2 M_Town_fall) ∧ PySem.W.keepIn K (.ref (He.fAd K ("Town", some "fall"))) = true ∧ Binds K fd ["self", "fallen"] []
theorem ok_Town_fall {base : Heap} (b : BG w K mg h)  (o_Town_back_by : Ok_Town_back_by P w K mg base) (o_Town_kept_by : Ok_Town_kept_by P w K mg base) : Ok_Town_fall P w K mg base := by
  obtain ⟨fd, F⟩ := b.c.d.def_ 24 (d := d_Town_fall) rfl
  obtain ⟨fd_Town_back_by, G_Town_back_by, kp_Town_back_by, b_Town_back_by⟩ := o_Town_back_by
  obtain ⟨fd_Town_kept_by, G_Town_kept_by, kp_Town_kept_by, b_Town_kept_by⟩ := o_Town_kept_by
  refine ⟨fd, fnOkD F sc_Town_fall (fun cdv A outer s H E hr => ?_), F.kp, F.bindsN fun _ _ _ _ _ _ us hl => match us, hl with | [_, _], _ => rfl⟩
  show SSs _ _ _ B_Town_fall
  unfold B_Town_fall
  exact (ss_cons (ss_set 2 sc_Town_fall.nd (se_methL (se_var 0) (b.glo 0) (b.cls 1) (b.meth 71) G_Town_kept_by (hr.mono (by decide)) b_Town_kept_by (takes_of rfl rfl rfl rfl) (sa_cons (se_var 1) (sa_cons (se_cmp (or_eq (hu64 hr)) (se_fld (b.fld 0 1 10) (se_var 0)) (se_gstr (by rfl) (b.str 70).choose_spec) rfl) sa_nil)))) (ss_cons (ss_expr (se_mt PySem.F.plainAttrs_list PySem.F.slot_list_append PySem.F.type_list_append mr_append (se_fld (b.fld 0 1 5) (se_var 0)) (sa_cons (se_tup (sa_cons (se_var 1) (sa_cons (se_methL (se_var 0) (b.glo 0) (b.cls 1) (b.meth 68) G_Town_back_by (hr.mono (by decide)) b_Town_back_by (takes_of rfl rfl rfl rfl) (sa_cons (se_var 2) sa_nil)) sa_nil))) sa_nil))) (ss_cons (ss_fld (b.fld 0 1 8) (se_var 0) (se_lockL (se_lc rfl sc_Town_fall.nd (blkOk_by (own := [("deed", 3), ("step", 4)]) (by first | rfl | kernel_rfl)) (by decide) (si_seqF (se_fld (b.fld 0 1 8) (se_var 0))) (fun s1 H1 C1 cl1 fp1 => (sh_tp rfl (shs_cons 3 sc_Town_fall.nd (shs_cons 4 sc_Town_fall.nd shs_nil)))) (fun s1 H1 C1 cl1 fp1 => (sts_one (st_w (sw_or (st_cmp (or_eq (hu64 hr)) (se_ix (hu1 hr) (se_var 3) se_int) (se_fld (b.fld 0 1 3) (se_var 0)) rfl) (sw_or1 (st_cmp or_leX (se_var 4) (se_ix (hu1 hr) (se_var 2) (se_ix (hu1 hr) (se_var 3) se_int)) rfl)))))) (fun s1 H1 C1 cl1 fp1 => (se_tup (sa_cons (se_var 3) (sa_cons (se_var 4) sa_nil))))) (mOp1 (opFld ["Town"] "rows") (mVar 0)))) (ss_one (ss_fld (b.fld 0 1 7) (se_var 0) (se_lc rfl sc_Town_fall.nd (blkOk_by (own := [("own", 5), ("many", 6)]) (by first | rfl | kernel_rfl)) (by decide) (si_zip (b.free 66) (se_fld (b.fld 0 1 7) (se_var 0)) (se_var 2)) (fun s1 H1 C1 cl1 fp1 => (sh_tp rfl (shs_cons 5 sc_Town_fall.nd (shs_cons 6 sc_Town_fall.nd shs_nil)))) (fun s1 H1 C1 cl1 fp1 => sts_nil) (fun s1 H1 C1 cl1 fp1 => (se_blt (cr_minL (by rfl) (hu17 hr)) (by rfl) (b.free 67) bb_min (sa_cons (se_var 5) (sa_cons (se_var 6) sa_nil))))))))))
def Ok_Town_settled_steps (P : Program) (w : World) (K : PySem.W.Frag) (mg : Str → Option Value) (base : Heap) : Prop := ∃ fd, FnOk P w K mg base (L2.CX P w) 6 (He.fAd K ("Town", some "settled_steps")) fd ["self"] (spF mg K 1 M_Town_settled_steps) ∧ PySem.W.keepIn K (.ref (He.fAd K ("Town", some "settled_steps"))) = true ∧ Binds K fd ["self"] []
theorem ok_Town_settled_steps {base : Heap} (b : BG w K mg h)  (o_Town_kept_by : Ok_Town_kept_by P w K mg base) : Ok_Town_settled_steps P w K mg base := by
  obtain ⟨fd, F⟩ := b.c.d.def_ 25 (d := d_Town_settled_steps) rfl
  obtain ⟨fd_Town_kept_by, G_Town_kept_by, kp_Town_kept_by, b_Town_kept_by⟩ := o_Town_kept_by
  refine ⟨fd, fnOkD F sc_Town_settled_steps (fun cdv A outer s H E hr => ?_), F.kp, F.bindsN fun _ _ _ _ _ _ us hl => match us, hl with | [_], _ => rfl⟩
  show SSs _ _ _ B_Town_settled_steps
  unfold B_Town_settled_steps
  exact (ss_one (ss_ret (se_methL (se_var 0) (b.glo 0) (b.cls 1) (b.meth 71) G_Town_kept_by (hr.mono (by decide)) b_Town_kept_by (takes_of rfl rfl rfl rfl) (sa_cons (se_tupRg1 (by rfl) (by rfl) (b.free 21) (by rfl) (b.free 51) (se_fld (b.fld 0 1 3) (se_var 0))) (sa_cons se_bl sa_nil)))))
def Ok_Town_clear (P : Program) (w : World) (K : PySem.W.Frag) (mg : Str → Option Value) (base : Heap) : Prop := ∃ fd, FnOk P w K mg base (L2.CX P w) 7 (He.fAd K ("Town", some "clear")) fd ["self"] (spF mg K 1 M_Town_clear) ∧ PySem.W.keepIn K (.ref (He.fAd K ("Town", some "clear"))) = true ∧ Binds K fd ["self"] []
theorem ok_Town_clear {base : Heap} (b : BG w K mg h)  (o_Town_settled_steps : Ok_Town_settled_steps P w K mg base) : Ok_Town_clear P w K mg base := by
  obtain ⟨fd, F⟩ := b.c.d.def_ 26 (d := d_Town_clear) rfl
  obtain ⟨fd_Town_settled_steps, G_Town_settled_steps, kp_Town_settled_steps, b_Town_settled_steps⟩ := o_Town_settled_steps
  refine ⟨fd, fnOkD F sc_Town_clear (fun cdv A outer s H E hr => ?_), F.kp, F.bindsN fun _ _ _ _ _ _ us hl => match us, hl with | [_], _ => rfl⟩
  show SSs _ _ _ B_Town_clear
  unfold B_Town_clear
  exact (ss_one (ss_for (passes_of rfl) rfl (si_enum (b.free 15) (se_methL0 (se_var 0) (b.glo 0) (b.cls 1) (b.meth 73) G_Town_settled_steps (hr.mono (by decide)) b_Town_settled_steps (takes_of rfl rfl rfl rfl))) (sg_tup rfl (sgs_cons (sg_name 1 sc_Town_clear.nd) (sgs_cons (sg_name 2 sc_Town_clear.nd) sgs_nil))) (ss_cons (ss_lockL (ss_setLc 3 rfl sc_Town_clear.nd (blkOk_by (own := [("deed", 4), ("step", 5)]) (by first | rfl | kernel_rfl)) (by decide) (si_seqF (se_fld (b.fld 0 1 8) (se_var 0))) (fun s1 H1 C1 cl1 fp1 => (sh_tp rfl (shs_cons 4 sc_Town_clear.nd (shs_cons 5 sc_Town_clear.nd shs_nil)))) (fun s1 H1 C1 cl1 fp1 => (sts_one (st_w (sw_and (st_cmp (or_eq (hu64 hr)) (se_var 4) (se_tup (sa_cons se_str (sa_cons (se_var 1) sa_nil))) rfl) (sw_and1 (st_cmp or_leX (se_var 5) (se_var 2) rfl)))))) (fun s1 H1 C1 cl1 fp1 => (se_var 5))) (mOp1 (opFld ["Town"] "rows") (mVar 0))) (ss_one (ss_asg (se_kw1 (cr_maxD (by rfl) (hu17 hr)) (by rfl) (b.free 74) bb_max (se_var 3) (se_ix (hu1 hr) (se_fld (b.fld 0 1 4) (se_var 0)) (se_var 1))) (sg_sub (hu1 hr) (se_fld (b.fld 0 1 4) (se_var 0)) (se_var 1)))))))
def Ok_Town_do_form (P : Program) (w : World) (K : PySem.W.Frag) (mg : Str → Option Value) (base : Heap) : Prop := ∃ fd, FnOk P w K mg base (L2.CX P w) 8 (He.fAd K ("Town", some "do_form")) fd ["self", "word", "rest"] (spF mg K 3 M_Town_do_form) ∧ PySem.W.keepIn K (.ref (He.fAd K ("Town", some "do_form"))) = true ∧ Binds K fd ["self", "word", "rest"] []
theorem ok_Town_do_form {base : Heap} (b : BG w K mg h)  (o_Town_put : Ok_Town_put P w K mg base) (o_Town_step : Ok_Town_step P w K mg base) (o_Town_write : Ok_Town_write P w K mg base) (o_Town_count_of : Ok_Town_count_of P w K mg base) (o_Town_fall : Ok_Town_fall P w K mg base) (o_Town_clear : Ok_Town_clear P w K mg base) : Ok_Town_do_form P w K mg base := by
  obtain ⟨fd, F⟩ := b.c.d.def_ 27 (d := d_Town_do_form) rfl
  obtain ⟨fd_Town_put, G_Town_put, kp_Town_put, b_Town_put⟩ := o_Town_put
  obtain ⟨fd_Town_step, G_Town_step, kp_Town_step, b_Town_step⟩ := o_Town_step
  obtain ⟨fd_Town_write, G_Town_write, kp_Town_write, b_Town_write⟩ := o_Town_write
  obtain ⟨fd_Town_count_of, G_Town_count_of, kp_Town_count_of, b_Town_count_of⟩ := o_Town_count_of
  obtain ⟨fd_Town_fall, G_Town_fall, kp_Town_fall, b_Town_fall⟩ := o_Town_fall
  obtain ⟨fd_Town_clear, G_Town_clear, kp_Town_clear, b_Town_clear⟩ := o_Town_clear
  refine ⟨fd, fnOkD F sc_Town_do_form (fun cdv A outer s H E hr => ?_), F.kp, F.bindsN fun _ _ _ _ _ _ us hl => match us, hl with | [_, _, _], _ => rfl⟩
  show SSs _ _ _ B_Town_do_form
  unfold B_Town_do_form
  exact (ss_one (ss_if (st_cmp (or_eq (hu64 hr)) (se_var 1) se_str rfl) (ss_one (ss_expr (se_methL (se_var 0) (b.glo 0) (b.cls 1) (b.meth 59) G_Town_put (hr.mono (by decide)) b_Town_put (takes_of rfl rfl rfl rfl) (sa_cons (se_ix (hu1 hr) (se_var 2) se_int) (sa_cons (se_ix (hu1 hr) (se_var 2) se_int) sa_nil))))) (ss_one (ss_if (st_cmp (or_eq (hu64 hr)) (se_var 1) se_str rfl) (ss_one (ss_expr (se_methL (se_var 0) (b.glo 0) (b.cls 1) (b.meth 64) G_Town_step (hr.mono (by decide)) b_Town_step (takes_of rfl rfl rfl rfl) (sa_cons (se_ix (hu1 hr) (se_var 2) se_int) (sa_cons (se_ix (hu1 hr) (se_var 2) se_int) (sa_cons (se_ix (hu1 hr) (se_var 2) se_int) sa_nil)))))) (ss_one (ss_if (st_cmp (or_eq (hu64 hr)) (se_var 1) se_str rfl) (ss_cons (ss_if (st_cmp (or_eq (hu64 hr)) (se_ix (hu1 hr) (se_fld (b.fld 0 1 7) (se_var 0)) (se_ix (hu1 hr) (se_var 2) se_int)) (se_methL (se_var 0) (b.glo 0) (b.cls 1) (b.meth 61) G_Town_count_of (hr.mono (by decide)) b_Town_count_of (takes_of rfl rfl rfl rfl) (sa_cons (se_ix (hu1 hr) (se_var 2) se_int) sa_nil)) rfl) (ss_one ss_never) ss_nil) (ss_one (ss_expr (se_methL (se_var 0) (b.glo 0) (b.cls 1) (b.meth 65) G_Town_write (hr.mono (by decide)) b_Town_write (takes_of rfl rfl rfl rfl) (sa_cons (se_ix (hu1 hr) (se_var 2) se_int) sa_nil))))) (ss_one (ss_if (st_cmp (or_eq (hu64 hr)) (se_var 1) se_str rfl) (ss_cons (ss_while (passes_of rfl) (st_cmp or_ltX (se_ix (hu1 hr) (se_fld (b.fld 0 1 7) (se_var 0)) (se_ix (hu1 hr) (se_var 2) se_int)) (se_methL (se_var 0) (b.glo 0) (b.cls 1) (b.meth 61) G_Town_count_of (hr.mono (by decide)) b_Town_count_of (takes_of rfl rfl rfl rfl) (sa_cons (se_ix (hu1 hr) (se_var 2) se_int) sa_nil)) rfl) (ss_one (ss_expr (se_methL (se_var 0) (b.glo 0) (b.cls 1) (b.meth 65) G_Town_write (hr.mono (by decide)) b_Town_write (takes_of rfl rfl rfl rfl) (sa_cons (se_ix (hu1 hr) (se_var 2) se_int) sa_nil))))) (ss_one (ss_expr (se_mt PySem.F.plainAttrs_list PySem.F.slot_list_append PySem.F.type_list_append mr_append (se_fld (b.fld 0 1 8) (se_var 0)) (sa_cons (se_tup (sa_cons (se_tup (sa_cons se_str (sa_cons (se_ix (hu1 hr) (se_var 2) se_int) sa_nil))) (sa_cons (se_methL (se_var 0) (b.glo 0) (b.cls 1) (b.meth 61) G_Town_count_of (hr.mono (by decide)) b_Town_count_of (takes_of rfl rfl rfl rfl) (sa_cons (se_ix (hu1 hr) (se_var 2) se_int) sa_nil)) sa_nil))) sa_nil))))) (ss_one (ss_if (st_cmp (or_eq (hu64 hr)) (se_var 1) se_str rfl) (ss_one (ss_expr (se_methL (se_var 0) (b.glo 0) (b.cls 1) (b.meth 72) G_Town_fall (hr.mono (by decide)) b_Town_fall (takes_of rfl rfl rfl rfl) (sa_cons (se_ix (hu1 hr) (se_var 2) se_int) sa_nil)))) (ss_one (ss_expr (se_methL0 (se_var 0) (b.glo 0) (b.cls 1) (b.meth 75) G_Town_clear (hr.mono (by decide)) b_Town_clear (takes_of rfl rfl rfl rfl))))))))))))))
def Ok_Town_twin (P : Program) (w : World) (K : PySem.W.Frag) (mg : Str → Option Value) (base : Heap) : Prop := ∃ fd, FnOk P w K mg base (L2.CX P w) 8 (He.fAd K ("Town", some "twin")) fd ["self"] (spF mg K 1 M_Town_twin) ∧ PySem.W.keepIn K (.ref (He.fAd K ("Town", some "twin"))) = true ∧ Binds K fd ["self"] []
theorem ok_Town_twin {base : Heap} (b : BG w K mg h)  (o_Town_take_over : Ok_Town_take_over P w K mg base) (o_Town_init : Ok_Town_init P w K mg base) : Ok_Town_twin P w K mg base := by
  obtain ⟨fd, F⟩ := b.c.d.def_ 28 (d := d_Town_twin) rfl
  obtain ⟨fd_Town_take_over, G_Town_take_over, kp_Town_take_over, b_Town_take_over⟩ := o_Town_take_over
  obtain ⟨fd_Town_init, G_Town_init, kp_Town_init, ⟨gg0_Town_init, kb0_Town_init⟩, ⟨gg1_Town_init, kb1_Town_init⟩⟩ := o_Town_init
  refine ⟨fd, fnOkD F sc_Town_twin (fun cdv A outer s H E hr => ?_), F.kp, F.bindsN fun _ _ _ _ _ _ us hl => match us, hl with | [_], _ => rfl⟩
  show SSs _ _ _ B_Town_twin
  unfold B_Town_twin
  exact (ss_cons (ss_set 1 sc_Town_twin.nd (se_makeK (b.mkr 28) G_Town_init (hr.mono (by decide)) (b.glo 0) kb1_Town_init ord1_Town_init (takes_of rfl rfl rfl rfl) (sa_cons (se_fld (b.fld 0 1 11) (se_var 0)) sa_nil) (sk_cons (se_fld (b.fld 0 1 10) (se_var 0)) sk_nil))) (ss_cons (ss_expr (se_methL (se_var 1) (b.glo 0) (b.cls 1) (b.meth 31) G_Town_take_over (hr.mono (by decide)) b_Town_take_over (takes_of rfl rfl rfl rfl) (sa_cons (se_var 0) sa_nil))) (ss_one (ss_ret (se_var 1)))))
def Ok_Town_is_hand (P : Program) (w : World) (K : PySem.W.Frag) (mg : Str → Option Value) (base : Heap) : Prop := ∃ fd, FnOk P w K mg base (L2.CX P w) 4 (He.fAd K ("Town", some "is_hand")) fd ["self", "thing"] (spF mg K 2 M_Town_is_hand) ∧ PySem.W.keepIn K (.ref (He.fAd K ("Town", some "is_hand"))) = true ∧ Binds K fd ["self", "thing"] []
theorem ok_Town_is_hand {base : Heap} (b : BG w K mg h)  (o_is_within : Ok_is_within P w K mg base) : Ok_Town_is_hand P w K mg base := by
  obtain ⟨fd, F⟩ := b.c.d.def_ 29 (d := d_Town_is_hand) rfl
  obtain ⟨fd_is_within, G_is_within, kp_is_within, b_is_within⟩ := o_is_within
  refine ⟨fd, fnOkD F sc_Town_is_hand (fun cdv A outer s H E hr => ?_), F.kp, F.bindsN fun _ _ _ _ _ _ us hl => match us, hl with | [_, _], _ => rfl⟩
  show SSs _ _ _ B_Town_is_hand
  unfold B_Town_is_hand
  exact (ss_one (ss_ret (se_callL G_is_within (hr.mono (by decide)) (b.glo 19) kp_is_within b_is_within (takes_of rfl rfl rfl rfl) (sa_cons (se_var 1) (sa_cons se_int (sa_cons (se_op or_sub (se_fld (b.fld 0 1 3) (se_var 0)) se_int) sa_nil))))))
def Ok_are_fallen (P : Program) (w : World) (K : PySem.W.Frag) (mg : Str → Option Value) (base : Heap) : Prop := ∃ fd, FnOk P w K mg base (L2.CX P w) 4 (He.fAd K ("are_fallen", none)) fd ["many", "thing"] (spF mg K 2 M_are_fallen) ∧ PySem.W.keepIn K (.ref (He.fAd K ("are_fallen", none))) = true ∧ Binds K fd ["many", "thing"] []
theorem ok_are_fallen {base : Heap} (b : BG w K mg h)  (o_is_within : Ok_is_within P w K mg base) : Ok_are_fallen P w K mg base := by
  obtain ⟨fd, F⟩ := b.c.d.def_ 30 (d := d_are_fallen) rfl
  obtain ⟨fd_is_within, G_is_within, kp_is_within, b_is_within⟩ := o_is_within
  refine ⟨fd, fnOkD F sc_are_fallen (fun cdv A outer s H E hr => ?_), F.kp, F.bindsN fun _ _ _ _ _ _ us hl => match us, hl with | [_, _], _ => rfl⟩
  show SSs _ _ _ B_are_fallen
  unfold B_are_fallen
  exact (ss_cons (ss_if (st_w (sw_or (st_not (st_val (se_isi "tuple" (by rfl) (b.free 12) bb_isinstance (se_var 1) (by rfl) (b.free 21) bt_tuple))) (sw_or (st_cmp (or_eq (hu64 hr)) (se_var 1) (se_tup sa_nil) rfl) (sw_or1 (st_not (st_val (se_blt (cr_allL (by rfl)) (by rfl) (b.free 20) bb_all (sa_cons (se_lockL (se_lc rfl sc_are_fallen.nd (blkOk_by (own := [("one", 2)]) (by first | rfl | kernel_rfl)) (by decide) (si_seqF (se_var 1)) (fun s1 H1 C1 cl1 fp1 => (sh_nm 2 sc_are_fallen.nd)) (fun s1 H1 C1 cl1 fp1 => sts_nil) (fun s1 H1 C1 cl1 fp1 => (se_callL G_is_within (hr.mono (by decide)) (b.glo 19) kp_is_within b_is_within takes0 (sa_cons (se_var 2) (sa_cons se_int (sa_cons (se_op or_sub (se_var 0) se_int) sa_nil)))))) (mVar 1)) sa_nil)))))))) (ss_one (ss_ret se_bl)) ss_nil) (ss_one (ss_ret (se_blt (cr_allL (by rfl)) (by rfl) (b.free 20) bb_all (sa_cons (se_lc rfl sc_are_fallen.nd (blkOk_by (own := [("one", 2), ("other", 3)]) (by first | rfl | kernel_rfl)) (by decide) (si_zip (b.free 66) (se_var 1) (se_sl (se_var 1) (so_some se_int) so_none)) (fun s1 H1 C1 cl1 fp1 => (sh_tp rfl (shs_cons 2 sc_are_fallen.nd (shs_cons 3 sc_are_fallen.nd shs_nil)))) (fun s1 H1 C1 cl1 fp1 => sts_nil) (fun s1 H1 C1 cl1 fp1 => (se_cmp or_ltX (se_var 2) (se_var 3) rfl))) sa_nil)))))
def Ok_Town_is_form (P : Program) (w : World) (K : PySem.W.Frag) (mg : Str → Option Value) (base : Heap) : Prop := ∃ fd, FnOk P w K mg base (L2.CX P w) 5 (He.fAd K ("Town", some "is_form")) fd ["self", "deed"] (spF mg K 2 M_Town_is_form) ∧ PySem.W.keepIn K (.ref (He.fAd K ("Town", some "is_form"))) = true ∧ Binds K fd ["self", "deed"] []
theorem ok_Town_is_form {base : Heap} (b : BG w K mg h) (kd_SIZES : KD K w (He.ga K "SIZES") tab_SIZES) (o_is_within : Ok_is_within P w K mg base) (o_Town_is_hand : Ok_Town_is_hand P w K mg base) (o_are_fallen : Ok_are_fallen P w K mg base) : Ok_Town_is_form P w K mg base := by
  obtain ⟨fd, F⟩ := b.c.d.def_ 31 (d := d_Town_is_form) rfl
  obtain ⟨fd_is_within, G_is_within, kp_is_within, b_is_within⟩ := o_is_within
  obtain ⟨fd_Town_is_hand, G_Town_is_hand, kp_Town_is_hand, b_Town_is_hand⟩ := o_Town_is_hand
  obtain ⟨fd_are_fallen, G_are_fallen, kp_are_fallen, b_are_fallen⟩ := o_are_fallen
  refine ⟨fd, fnOkD F sc_Town_is_form (fun cdv A outer s H E hr => ?_), F.kp, F.bindsN fun _ _ _ _ _ _ us hl => match us, hl with | [_, _], _ => rfl⟩
  show SSs _ _ _ B_Town_is_form
  unfold B_Town_is_form
  exact (ss_cons (ss_if (st_w (sw_or (st_not (st_val (se_isi "tuple" (by rfl) (b.free 12) bb_isinstance (se_var 1) (by rfl) (b.free 21) bt_tuple))) (sw_or (st_cmp (or_eq (hu64 hr)) (se_var 1) (se_tup sa_nil) rfl) (sw_or (st_not (st_val (se_isi "str" (by rfl) (b.free 12) bb_isinstance (se_ix (hu1 hr) (se_var 1) se_int) (by rfl) (b.free 13) bt_str))) (sw_or1 (st_kdNotIn (by rfl) (b.glo 80) kd_SIZES (se_ix (hu1 hr) (se_var 1) se_int))))))) (ss_one (ss_ret se_bl)) ss_nil) (ss_cons (ss_if (st_cmp (or_ne (hu64 hr)) (se_blt cr_len (by rfl) (b.free 9) bb_len (sa_cons (se_var 1) sa_nil)) (se_kdIx (by rfl) (b.glo 80) kd_SIZES (se_ix (hu1 hr) (se_var 1) se_int)) rfl) (ss_one (ss_ret se_bl)) ss_nil) (ss_cons (ss_if (st_cmp (or_eq (hu64 hr)) (se_ix (hu1 hr) (se_var 1) se_int) se_str rfl) (ss_one (ss_ret se_bl)) ss_nil) (ss_cons (ss_if (st_cmp (or_eq (hu64 hr)) (se_ix (hu1 hr) (se_var 1) se_int) se_str rfl) (ss_one (ss_ret (se_callL G_are_fallen (hr.mono (by decide)) (b.glo 79) kp_are_fallen b_are_fallen (takes_of rfl rfl rfl rfl) (sa_cons (se_fld (b.fld 0 1 3) (se_var 0)) (sa_cons (se_ix (hu1 hr) (se_var 1) se_int) sa_nil))))) ss_nil) (ss_cons (ss_if (st_not (st_val (se_methL (se_var 0) (b.glo 0) (b.cls 1) (b.meth 78) G_Town_is_hand (hr.mono (by decide)) b_Town_is_hand (takes_of rfl rfl rfl rfl) (sa_cons (se_ix (hu1 hr) (se_var 1) se_int) sa_nil)))) (ss_one (ss_ret se_bl)) ss_nil) (ss_cons (ss_if (st_cmp (or_eq (hu64 hr)) (se_ix (hu1 hr) (se_var 1) se_int) se_str rfl) (ss_one (ss_ret (se_callL G_is_within (hr.mono (by decide)) (b.glo 19) kp_is_within b_is_within (takes_of rfl rfl rfl rfl) (sa_cons (se_ix (hu1 hr) (se_var 1) se_int) (sa_cons se_int (sa_cons (se_gint (by rfl) (b.int 47).choose_spec) sa_nil)))))) ss_nil) (ss_one (ss_ret (se_or (se_cmp (or_ne (hu64 hr)) (se_ix (hu1 hr) (se_var 1) se_int) se_str rfl) (se_one (se_and (se_callL G_is_within (hr.mono (by decide)) (b.glo 19) kp_is_within b_is_within (takes_of rfl rfl rfl rfl) (sa_cons (se_ix (hu1 hr) (se_var 1) se_int) (sa_cons se_int (sa_cons (se_fld (b.fld 0 1 3) (se_var 0)) sa_nil)))) (se_one (se_callL G_is_within (hr.mono (by decide)) (b.glo 19) kp_is_within b_is_within (takes_of rfl rfl rfl rfl) (sa_cons (se_ix (hu1 hr) (se_var 1) se_int) (sa_cons se_int (sa_cons (se_gint (by rfl) (b.int 32).choose_spec) sa_nil))))))))))))))))
def Ok_Town_do (P : Program) (w : World) (K : PySem.W.Frag) (mg : Str → Option Value) (base : Heap) : Prop := ∃ fd, FnOk P w K mg base (L2.CX P w) 9 (He.fAd K ("Town", some "do")) fd ["self", "deed"] (spF mg K 2 M_Town_do) ∧ PySem.W.keepIn K (.ref (He.fAd K ("Town", some "do"))) = true ∧ Binds K fd ["self", "deed"] []
theorem ok_Town_do {base : Heap} (b : BG w K mg h)  (o_Town_take_over : Ok_Town_take_over P w K mg base) (o_Town_tell : Ok_Town_tell P w K mg base) (o_Town_do_form : Ok_Town_do_form P w K mg base) (o_Town_twin : Ok_Town_twin P w K mg base) (o_Town_is_form : Ok_Town_is_form P w K mg base) : Ok_Town_do P w K mg base := by
  obtain ⟨fd, F⟩ := b.c.d.def_ 32 (d := d_Town_do) rfl
  obtain ⟨fd_Town_take_over, G_Town_take_over, kp_Town_take_over, b_Town_take_over⟩ := o_Town_take_over
  obtain ⟨fd_Town_tell, G_Town_tell, kp_Town_tell, b_Town_tell⟩ := o_Town_tell
  obtain ⟨fd_Town_do_form, G_Town_do_form, kp_Town_do_form, b_Town_do_form⟩ := o_Town_do_form
  obtain ⟨fd_Town_twin, G_Town_twin, kp_Town_twin, b_Town_twin⟩ := o_Town_twin
  obtain ⟨fd_Town_is_form, G_Town_is_form, kp_Town_is_form, b_Town_is_form⟩ := o_Town_is_form
  refine ⟨fd, fnOkD F sc_Town_do (fun cdv A outer s H E hr => ?_), F.kp, F.bindsN fun _ _ _ _ _ _ us hl => match us, hl with | [_, _], _ => rfl⟩
  show SSs _ _ _ B_Town_do
  unfold B_Town_do
  exact (ss_cons (ss_if (st_not (st_val (se_methL (se_var 0) (b.glo 0) (b.cls 1) (b.meth 81) G_Town_is_form (hr.mono (by decide)) b_Town_is_form (takes_of rfl rfl rfl rfl) (sa_cons (se_var 1) sa_nil)))) (ss_one ss_never) ss_nil) (ss_cons (ss_set 2 sc_Town_do.nd (se_methL0 (se_var 0) (b.glo 0) (b.cls 1) (b.meth 77) G_Town_twin (hr.mono (by decide)) b_Town_twin (takes_of rfl rfl rfl rfl))) (ss_cons (ss_expr (se_methL (se_var 2) (b.glo 0) (b.cls 1) (b.meth 76) G_Town_do_form (hr.mono (by decide)) b_Town_do_form (takes_of rfl rfl rfl rfl) (sa_cons (se_ix (hu1 hr) (se_var 1) se_int) (sa_cons (se_sl (se_var 1) (so_some se_int) so_none) sa_nil)))) (ss_cons (ss_expr (se_methL0 (se_var 2) (b.glo 0) (b.cls 1) (b.meth 58) G_Town_tell (hr.mono (by decide)) b_Town_tell (takes_of rfl rfl rfl rfl))) (ss_cons (ss_if (st_cmp or_gtX (se_blt cr_len (by rfl) (b.free 9) bb_len (sa_cons (se_fld (b.fld 0 1 8) (se_var 2)) sa_nil)) (se_gint (by rfl) (b.int 32).choose_spec) rfl) (ss_one ss_never) ss_nil) (ss_cons (ss_expr (se_methL (se_var 0) (b.glo 0) (b.cls 1) (b.meth 31) G_Town_take_over (hr.mono (by decide)) b_Town_take_over (takes_of rfl rfl rfl rfl) (sa_cons (se_var 2) sa_nil))) (ss_one (ss_expr (se_mt PySem.F.plainAttrs_list PySem.F.slot_list_append PySem.F.type_list_append mr_append (se_fld (b.fld 0 1 2) (se_var 0)) (sa_cons (se_var 1) sa_nil))))))))))
def Ok_Town_under_way (P : Program) (w : World) (K : PySem.W.Frag) (mg : Str → Option Value) (base : Heap) : Prop := ∃ fd, FnOk P w K mg base (L2.CX P w) 5 (He.fAd K ("Town", some "under_way")) fd ["self"] (spF mg K 1 M_Town_under_way) ∧ PySem.W.keepIn K (.ref (He.fAd K ("Town", some "under_way"))) = true ∧ Binds K fd ["self"] []
theorem ok_Town_under_way {base : Heap} (b : BG w K mg h)  (o_Town_going : Ok_Town_going P w K mg base) : Ok_Town_under_way P w K mg base := by
  obtain ⟨fd, F⟩ := b.c.d.def_ 33 (d := d_Town_under_way) rfl
  obtain ⟨fd_Town_going, G_Town_going, kp_Town_going, b_Town_going⟩ := o_Town_going
  refine ⟨fd, fnOkD F sc_Town_under_way (fun cdv A outer s H E hr => ?_), F.kp, F.bindsN fun _ _ _ _ _ _ us hl => match us, hl with | [_], _ => rfl⟩
  show SSs _ _ _ B_Town_under_way
  unfold B_Town_under_way
  exact (ss_one (ss_ret (se_blt (cr_sortedA (by rfl) (hu18 hr)) (by rfl) (b.free 83) bb_sorted (sa_cons (se_lc rfl sc_Town_under_way.nd (blkOk_by (own := [("letter", 1), ("own", 2)]) (by first | rfl | kernel_rfl)) (by decide) (si_items (se_frz (se_fld (b.fld 36 37 38) (se_methL0 (se_var 0) (b.glo 0) (b.cls 1) (b.meth 53) G_Town_going (hr.mono (by decide)) b_Town_going (takes_of rfl rfl rfl rfl))))) (fun s1 H1 C1 cl1 fp1 => (sh_tp rfl (shs_cons 1 sc_Town_under_way.nd (shs_cons 2 sc_Town_under_way.nd shs_nil)))) (fun s1 H1 C1 cl1 fp1 => (sts_one (st_cmp or_isN (se_ix (hu1 hr) (se_var 2) se_int) se_non rfl))) (fun s1 H1 C1 cl1 fp1 => (se_var 1))) sa_nil))))
def Ok_Town_told (P : Program) (w : World) (K : PySem.W.Frag) (mg : Str → Option Value) (base : Heap) : Prop := ∃ fd, FnOk P w K mg base (L2.CX P w) 2 (He.fAd K ("Town", some "told")) fd ["self"] (spF mg K 1 M_Town_told) ∧ PySem.W.keepIn K (.ref (He.fAd K ("Town", some "told"))) = true ∧ Binds K fd ["self"] []
theorem ok_Town_told {base : Heap} (b : BG w K mg h)   : Ok_Town_told P w K mg base := by
  obtain ⟨fd, F⟩ := b.c.d.def_ 34 (d := d_Town_told) rfl
  refine ⟨fd, fnOkD F sc_Town_told (fun cdv A outer s H E hr => ?_), F.kp, F.bindsN fun _ _ _ _ _ _ us hl => match us, hl with | [_], _ => rfl⟩
  show SSs _ _ _ B_Town_told
  unfold B_Town_told
  exact (ss_one (ss_ret (se_bty cr_list (by rfl) (b.free 30) bt_list (sa_cons (se_fld (b.fld 0 1 6) (se_var 0)) sa_nil))))
def Ok_settled (P : Program) (w : World) (K : PySem.W.Frag) (mg : Str → Option Value) (base : Heap) : Prop := ∃ fd, FnOk P w K mg base (L2.CX P w) 7 (He.fAd K ("settled", none)) fd ["town"] (spF mg K 1 M_settled) ∧ PySem.W.keepIn K (.ref (He.fAd K ("settled", none))) = true ∧ Binds K fd ["town"] []
theorem ok_settled {base : Heap} (b : BG w K mg h)  (o_Town_settled_steps : Ok_Town_settled_steps P w K mg base) : Ok_settled P w K mg base := by
  obtain ⟨fd, F⟩ := b.c.d.def_ 35 (d := d_settled) rfl
  obtain ⟨fd_Town_settled_steps, G_Town_settled_steps, kp_Town_settled_steps, b_Town_settled_steps⟩ := o_Town_settled_steps
  refine ⟨fd, fnOkD F sc_settled (fun cdv A outer s H E hr => ?_), F.kp, F.bindsN fun _ _ _ _ _ _ us hl => match us, hl with | [_], _ => rfl⟩
  show SSs _ _ _ B_settled
  unfold B_settled
  exact (ss_one (ss_ret (se_bty cr_tuple (by rfl) (b.free 21) bt_tuple (sa_cons (se_methL0 (se_var 0) (b.glo 0) (b.cls 1) (b.meth 73) G_Town_settled_steps (hr.mono (by decide)) b_Town_settled_steps (takes_of rfl rfl rfl rfl)) sa_nil))))
def Ok_Town_falls (P : Program) (w : World) (K : PySem.W.Frag) (mg : Str → Option Value) (base : Heap) : Prop := ∃ fd, FnOk P w K mg base (L2.CX P w) 2 (He.fAd K ("Town", some "falls")) fd ["self"] (spF mg K 1 M_Town_falls) ∧ PySem.W.keepIn K (.ref (He.fAd K ("Town", some "falls"))) = true ∧ Binds K fd ["self"] []
theorem ok_Town_falls {base : Heap} (b : BG w K mg h)   : Ok_Town_falls P w K mg base := by
  obtain ⟨fd, F⟩ := b.c.d.def_ 36 (d := d_Town_falls) rfl
  refine ⟨fd, fnOkD F sc_Town_falls (fun cdv A outer s H E hr => ?_), F.kp, F.bindsN fun _ _ _ _ _ _ us hl => match us, hl with | [_], _ => rfl⟩
  show SSs _ _ _ B_Town_falls
  unfold B_Town_falls
  exact (ss_one (ss_ret (se_bty cr_list (by rfl) (b.free 30) bt_list (sa_cons (se_fld (b.fld 0 1 5) (se_var 0)) sa_nil))))
def Ok_lost_by (P : Program) (w : World) (K : PySem.W.Frag) (mg : Str → Option Value) (base : Heap) : Prop := ∃ fd, FnOk P w K mg base (L2.CX P w) 10 (He.fAd K ("lost_by", none)) fd ["town", "fallen"] (spF mg K 2 M_lost_by) ∧ PySem.W.keepIn K (.ref (He.fAd K ("lost_by", none))) = true ∧ Binds K fd ["town", "fallen"] []
theorem ok_lost_by {base : Heap} (b : BG w K mg h)  (o_Town_falls : Ok_Town_falls P w K mg base) (o_Town_do : Ok_Town_do P w K mg base) (o_Town_twin : Ok_Town_twin P w K mg base) : Ok_lost_by P w K mg base := by
  obtain ⟨fd, F⟩ := b.c.d.def_ 37 (d := d_lost_by) rfl
  obtain ⟨fd_Town_falls, G_Town_falls, kp_Town_falls, b_Town_falls⟩ := o_Town_falls
  obtain ⟨fd_Town_do, G_Town_do, kp_Town_do, b_Town_do⟩ := o_Town_do
  obtain ⟨fd_Town_twin, G_Town_twin, kp_Town_twin, b_Town_twin⟩ := o_Town_twin
  refine ⟨fd, fnOkD F sc_lost_by (fun cdv A outer s H E hr => ?_), F.kp, F.bindsN fun _ _ _ _ _ _ us hl => match us, hl with | [_, _], _ => rfl⟩
  show SSs _ _ _ B_lost_by
  unfold B_lost_by
  exact (ss_cons (ss_set 2 sc_lost_by.nd (se_methL0 (se_var 0) (b.glo 0) (b.cls 1) (b.meth 77) G_Town_twin (hr.mono (by decide)) b_Town_twin (takes_of rfl rfl rfl rfl))) (ss_cons (ss_expr (se_methL (se_var 2) (b.glo 0) (b.cls 1) (b.meth 82) G_Town_do (hr.mono (by decide)) b_Town_do (takes_of rfl rfl rfl rfl) (sa_cons (se_tup (sa_cons se_str (sa_cons (se_var 1) sa_nil))) sa_nil))) (ss_one (ss_ret (se_ix (hu1 hr) (se_ix (hu1 hr) (se_methL0 (se_var 2) (b.glo 0) (b.cls 1) (b.meth 87) G_Town_falls (hr.mono (by decide)) b_Town_falls (takes_of rfl rfl rfl rfl)) (se_neg se_int)) se_int)))))
def Ok__law_free_right (P : Program) (w : World) (K : PySem.W.Frag) (mg : Str → Option Value) (base : Heap) : Prop := ∃ fd, FnOk P w K mg base (L2.CX P w) 11 (He.fAd K ("_law_free_right", none)) fd ["_law_worth"] (spF mg K 1 M__law_free_right) ∧ PySem.W.keepIn K (.ref (He.fAd K ("_law_free_right", none))) = true ∧ Binds K fd ["_law_worth"] []
theorem ok__law_free_right {base : Heap} (b : BG w K mg h)  (o__law_row_of : Ok__law_row_of P w K mg base) (o_Town_do : Ok_Town_do P w K mg base) (o_Town_under_way : Ok_Town_under_way P w K mg base) (o_Town_told : Ok_Town_told P w K mg base) (o_settled : Ok_settled P w K mg base) (o_lost_by : Ok_lost_by P w K mg base) : Ok__law_free_right P w K mg base := by
  obtain ⟨fd, F⟩ := b.c.d.def_ 38 (d := d__law_free_right) rfl
  obtain ⟨fd__law_row_of, G__law_row_of, kp__law_row_of, b__law_row_of⟩ := o__law_row_of
  obtain ⟨fd_Town_do, G_Town_do, kp_Town_do, b_Town_do⟩ := o_Town_do
  obtain ⟨fd_Town_under_way, G_Town_under_way, kp_Town_under_way, b_Town_under_way⟩ := o_Town_under_way
  obtain ⟨fd_Town_told, G_Town_told, kp_Town_told, b_Town_told⟩ := o_Town_told
  obtain ⟨fd_settled, G_settled, kp_settled, b_settled⟩ := o_settled
  obtain ⟨fd_lost_by, G_lost_by, kp_lost_by, b_lost_by⟩ := o_lost_by
  refine ⟨fd, fnOkD F sc__law_free_right (fun cdv A outer s H E hr => ?_), F.kp, F.bindsN fun _ _ _ _ _ _ us hl => match us, hl with | [_], _ => rfl⟩
  show SSs _ _ _ B__law_free_right
  unfold B__law_free_right T__law_free_right_0 T__law_free_right_1 T__law_free_right_2 T__law_free_right_3 T__law_free_right_4 T__law_free_right_5 T__law_free_right_6 T__law_free_right_7 T__law_free_right_8 T__law_free_right_9 T__law_free_right_10
  exact (ss_cons (ss_set 1 sc__law_free_right.nd (se_callL G__law_row_of (hr.mono (by decide)) (b.glo 29) kp__law_row_of b__law_row_of (takes_of rfl rfl rfl rfl) (sa_cons se_str sa_nil))) (ss_cons (ss_for (passes_of rfl) rfl (si_seqF (se_frzL (se_lst (sa_cons (se_tup (sa_cons se_str (sa_cons se_int (sa_cons (se_var 0) sa_nil)))) (sa_cons (se_tup (sa_cons se_str (sa_cons se_int (sa_cons se_int (sa_cons se_int sa_nil))))) (sa_cons (se_tup (sa_cons se_str (sa_cons se_int (sa_cons se_int (sa_cons se_int sa_nil))))) (sa_cons (se_tup (sa_cons se_str (sa_cons se_int (sa_cons se_int (sa_cons se_int sa_nil))))) sa_nil))))))) (sg_name 2 sc__law_free_right.nd) (ss_one (ss_expr (se_methL (se_var 1) (b.glo 0) (b.cls 1) (b.meth 82) G_Town_do (hr.mono (by decide)) b_Town_do (takes_of rfl rfl rfl rfl) (sa_cons (se_var 2) sa_nil))))) (ss_cons (ss_if (st_w (sw_or (st_cmp (or_ne (hu64 hr)) (se_methL0 (se_var 1) (b.glo 0) (b.cls 1) (b.meth 84) G_Town_under_way (hr.mono (by decide)) b_Town_under_way (takes_of rfl rfl rfl rfl)) (se_lst (sa_cons (se_tup (sa_cons se_int (sa_cons se_int sa_nil))) sa_nil)) rfl) (sw_or (st_cmp (or_ne (hu64 hr)) (se_methL0 (se_var 1) (b.glo 0) (b.cls 1) (b.meth 85) G_Town_told (hr.mono (by decide)) b_Town_told (takes_of rfl rfl rfl rfl)) (se_lst sa_nil) rfl) (sw_or1 (st_cmp (or_ne (hu64 hr)) (se_callL G_settled (hr.mono (by decide)) (b.glo 86) kp_settled b_settled (takes_of rfl rfl rfl rfl) (sa_cons (se_var 1) sa_nil)) (se_tup (sa_cons se_int (sa_cons se_int (sa_cons se_int sa_nil)))) rfl))))) (ss_one (ss_ret se_bl)) ss_nil) (ss_cons (ss_if (st_w (sw_or (st_cmp (or_ne (hu64 hr)) (se_callL G_lost_by (hr.mono (by decide)) (b.glo 88) kp_lost_by b_lost_by (takes_of rfl rfl rfl rfl) (sa_cons (se_var 1) (sa_cons (se_tup (sa_cons se_int sa_nil)) sa_nil))) (se_tup (sa_cons se_int (sa_cons se_int (sa_cons se_int sa_nil)))) rfl) (sw_or (st_cmp (or_ne (hu64 hr)) (se_callL G_lost_by (hr.mono (by decide)) (b.glo 88) kp_lost_by b_lost_by (takes_of rfl rfl rfl rfl) (sa_cons (se_var 1) (sa_cons (se_tup (sa_cons se_int sa_nil)) sa_nil))) (se_tup (sa_cons se_int (sa_cons se_int (sa_cons se_int sa_nil)))) rfl) (sw_or1 (st_cmp (or_ne (hu64 hr)) (se_callL G_lost_by (hr.mono (by decide)) (b.glo 88) kp_lost_by b_lost_by (takes_of rfl rfl rfl rfl) (sa_cons (se_var 1) (sa_cons (se_tup (sa_cons se_int (sa_cons se_int sa_nil))) sa_nil))) (se_tup (sa_cons se_int (sa_cons se_int (sa_cons se_int sa_nil)))) rfl))))) (ss_one (ss_ret se_bl)) ss_nil) (ss_cons (ss_for (passes_of rfl) rfl (si_seqF (se_frzL (se_lst (sa_cons se_int (sa_cons se_int sa_nil))))) (sg_name 3 sc__law_free_right.nd) (ss_one (ss_expr (se_methL (se_var 1) (b.glo 0) (b.cls 1) (b.meth 82) G_Town_do (hr.mono (by decide)) b_Town_do (takes_of rfl rfl rfl rfl) (sa_cons (se_tup (sa_cons se_str (sa_cons (se_var 3) sa_nil))) sa_nil))))) (ss_cons (ss_if (st_w (sw_or (st_cmp (or_ne (hu64 hr)) (se_callL G_lost_by (hr.mono (by decide)) (b.glo 88) kp_lost_by b_lost_by (takes_of rfl rfl rfl rfl) (sa_cons (se_var 1) (sa_cons (se_tup (sa_cons se_int sa_nil)) sa_nil))) (se_tup (sa_cons se_int (sa_cons se_int (sa_cons se_int sa_nil)))) rfl) (sw_or (st_cmp (or_ne (hu64 hr)) (se_callL G_lost_by (hr.mono (by decide)) (b.glo 88) kp_lost_by b_lost_by (takes_of rfl rfl rfl rfl) (sa_cons (se_var 1) (sa_cons (se_tup (sa_cons se_int (sa_cons se_int sa_nil))) sa_nil))) (se_tup (sa_cons se_int (sa_cons se_int (sa_cons se_int sa_nil)))) rfl) (sw_or1 (st_cmp (or_ne (hu64 hr)) (se_methL0 (se_var 1) (b.glo 0) (b.cls 1) (b.meth 85) G_Town_told (hr.mono (by decide)) b_Town_told (takes_of rfl rfl rfl rfl)) (se_lst sa_nil) rfl))))) (ss_one (ss_ret se_bl)) ss_nil) (ss_cons (ss_expr (se_methL (se_var 1) (b.glo 0) (b.cls 1) (b.meth 82) G_Town_do (hr.mono (by decide)) b_Town_do (takes_of rfl rfl rfl rfl) (sa_cons (se_tup (sa_cons se_str (sa_cons se_int sa_nil))) sa_nil))) (ss_cons (ss_set 4 sc__law_free_right.nd (se_op or_mod (se_op or_add (se_var 0) se_int) se_int)) (ss_cons (ss_set 5 sc__law_free_right.nd (se_op or_mod (se_op or_add (se_var 4) se_int) se_int)) (ss_cons (ss_if (st_w (sw_or (st_cmp (or_ne (hu64 hr)) (se_methL0 (se_var 1) (b.glo 0) (b.cls 1) (b.meth 85) G_Town_told (hr.mono (by decide)) b_Town_told (takes_of rfl rfl rfl rfl)) (se_lst (sa_cons (se_tup (sa_cons se_int (sa_cons se_int (sa_cons (se_op or_mod (se_op or_add (se_var 5) se_int) se_int) sa_nil)))) sa_nil)) rfl) (sw_or1 (st_cmp (or_ne (hu64 hr)) (se_callL G_lost_by (hr.mono (by decide)) (b.glo 88) kp_lost_by b_lost_by (takes_of rfl rfl rfl rfl) (sa_cons (se_var 1) (sa_cons (se_tup (sa_cons se_int (sa_cons se_int (sa_cons se_int sa_nil)))) sa_nil))) (se_tup (sa_cons se_int (sa_cons se_int (sa_cons se_int sa_nil)))) rfl)))) (ss_one (ss_ret se_bl)) ss_nil) (ss_one (ss_ret (se_and (se_cmp (or_eq (hu64 hr)) (se_methL0 (se_var 1) (b.glo 0) (b.cls 1) (b.meth 84) G_Town_under_way (hr.mono (by decide)) b_Town_under_way (takes_of rfl rfl rfl rfl)) (se_lst sa_nil) rfl) (se_one (se_cmp (or_eq (hu64 hr)) (se_callL G_settled (hr.mono (by decide)) (b.glo 86) kp_settled b_settled (takes_of rfl rfl rfl rfl) (sa_cons (se_var 1) sa_nil)) (se_tup (sa_cons se_int (sa_cons se_int (sa_cons se_int sa_nil)))) rfl)))))))))))))))
def Ok_Town_look_at_hand (P : Program) (w : World) (K : PySem.W.Frag) (mg : Str → Option Value) (base : Heap) : Prop := ∃ fd, FnOk P w K mg base (L2.CX P w) 5 (He.fAd K ("Town", some "look_at_hand")) fd ["self", "hand"] (spF mg K 2 M_Town_look_at_hand) ∧ PySem.W.keepIn K (.ref (He.fAd K ("Town", some "look_at_hand"))) = true ∧ Binds K fd ["self", "hand"] []
theorem ok_Town_look_at_hand {base : Heap} (b : BG w K mg h)  (o_Town_is_hand : Ok_Town_is_hand P w K mg base) : Ok_Town_look_at_hand P w K mg base := by
  obtain ⟨fd, F⟩ := b.c.d.def_ 39 (d := d_Town_look_at_hand) rfl
  obtain ⟨fd_Town_is_hand, G_Town_is_hand, kp_Town_is_hand, b_Town_is_hand⟩ := o_Town_is_hand
  refine ⟨fd, fnOkD F sc_Town_look_at_hand (fun cdv A outer s H E hr => ?_), F.kp, F.bindsN fun _ _ _ _ _ _ us hl => match us, hl with | [_, _], _ => rfl⟩
  show SSs _ _ _ B_Town_look_at_hand
  unfold B_Town_look_at_hand
  exact (ss_one (ss_if (st_not (st_val (se_methL (se_var 0) (b.glo 0) (b.cls 1) (b.meth 78) G_Town_is_hand (hr.mono (by decide)) b_Town_is_hand (takes_of rfl rfl rfl rfl) (sa_cons (se_var 1) sa_nil)))) (ss_one ss_never) ss_nil))
def Ok_Town_steps (P : Program) (w : World) (K : PySem.W.Frag) (mg : Str → Option Value) (base : Heap) : Prop := ∃ fd, FnOk P w K mg base (L2.CX P w) 6 (He.fAd K ("Town", some "steps")) fd ["self", "hand"] (spF mg K 2 M_Town_steps) ∧ PySem.W.keepIn K (.ref (He.fAd K ("Town", some "steps"))) = true ∧ Binds K fd ["self", "hand"] []
theorem ok_Town_steps {base : Heap} (b : BG w K mg h)  (o_Town_count_of : Ok_Town_count_of P w K mg base) (o_Town_look_at_hand : Ok_Town_look_at_hand P w K mg base) : Ok_Town_steps P w K mg base := by
  obtain ⟨fd, F⟩ := b.c.d.def_ 40 (d := d_Town_steps) rfl
  obtain ⟨fd_Town_count_of, G_Town_count_of, kp_Town_count_of, b_Town_count_of⟩ := o_Town_count_of
  obtain ⟨fd_Town_look_at_hand, G_Town_look_at_hand, kp_Town_look_at_hand, b_Town_look_at_hand⟩ := o_Town_look_at_hand
  refine ⟨fd, fnOkD F sc_Town_steps (fun cdv A outer s H E hr => ?_), F.kp, F.bindsN fun _ _ _ _ _ _ us hl => match us, hl with | [_, _], _ => rfl⟩
  show SSs _ _ _ B_Town_steps
  unfold B_Town_steps
  exact (ss_cons (ss_expr (se_methL (se_var 0) (b.glo 0) (b.cls 1) (b.meth 90) G_Town_look_at_hand (hr.mono (by decide)) b_Town_look_at_hand (takes_of rfl rfl rfl rfl) (sa_cons (se_var 1) sa_nil))) (ss_one (ss_ret (se_methL (se_var 0) (b.glo 0) (b.cls 1) (b.meth 61) G_Town_count_of (hr.mono (by decide)) b_Town_count_of (takes_of rfl rfl rfl rfl) (sa_cons (se_var 1) sa_nil)))))
def Ok_Town_written (P : Program) (w : World) (K : PySem.W.Frag) (mg : Str → Option Value) (base : Heap) : Prop := ∃ fd, FnOk P w K mg base (L2.CX P w) 6 (He.fAd K ("Town", some "written")) fd ["self", "hand"] (spF mg K 2 M_Town_written) ∧ PySem.W.keepIn K (.ref (He.fAd K ("Town", some "written"))) = true ∧ Binds K fd ["self", "hand"] []
theorem ok_Town_written {base : Heap} (b : BG w K mg h)  (o_Town_look_at_hand : Ok_Town_look_at_hand P w K mg base) : Ok_Town_written P w K mg base := by
  obtain ⟨fd, F⟩ := b.c.d.def_ 41 (d := d_Town_written) rfl
  obtain ⟨fd_Town_look_at_hand, G_Town_look_at_hand, kp_Town_look_at_hand, b_Town_look_at_hand⟩ := o_Town_look_at_hand
  refine ⟨fd, fnOkD F sc_Town_written (fun cdv A outer s H E hr => ?_), F.kp, F.bindsN fun _ _ _ _ _ _ us hl => match us, hl with | [_, _], _ => rfl⟩
  show SSs _ _ _ B_Town_written
  unfold B_Town_written
  exact (ss_cons (ss_expr (se_methL (se_var 0) (b.glo 0) (b.cls 1) (b.meth 90) G_Town_look_at_hand (hr.mono (by decide)) b_Town_look_at_hand (takes_of rfl rfl rfl rfl) (sa_cons (se_var 1) sa_nil))) (ss_one (ss_ret (se_ix (hu1 hr) (se_fld (b.fld 0 1 7) (se_var 0)) (se_var 1)))))
def Ok__law_wait_right (P : Program) (w : World) (K : PySem.W.Frag) (mg : Str → Option Value) (base : Heap) : Prop := ∃ fd, FnOk P w K mg base (L2.CX P w) 11 (He.fAd K ("_law_wait_right", none)) fd ["_law_worth"] (spF mg K 1 M__law_wait_right) ∧ PySem.W.keepIn K (.ref (He.fAd K ("_law_wait_right", none))) = true ∧ Binds K fd ["_law_worth"] []
theorem ok__law_wait_right {base : Heap} (b : BG w K mg h)  (o__law_row_of : Ok__law_row_of P w K mg base) (o_Town_do : Ok_Town_do P w K mg base) (o_Town_under_way : Ok_Town_under_way P w K mg base) (o_lost_by : Ok_lost_by P w K mg base) (o_Town_steps : Ok_Town_steps P w K mg base) (o_Town_falls : Ok_Town_falls P w K mg base) (o_Town_written : Ok_Town_written P w K mg base) : Ok__law_wait_right P w K mg base := by
  obtain ⟨fd, F⟩ := b.c.d.def_ 42 (d := d__law_wait_right) rfl
  obtain ⟨fd__law_row_of, G__law_row_of, kp__law_row_of, b__law_row_of⟩ := o__law_row_of
  obtain ⟨fd_Town_do, G_Town_do, kp_Town_do, b_Town_do⟩ := o_Town_do
  obtain ⟨fd_Town_under_way, G_Town_under_way, kp_Town_under_way, b_Town_under_way⟩ := o_Town_under_way
  obtain ⟨fd_lost_by, G_lost_by, kp_lost_by, b_lost_by⟩ := o_lost_by
  obtain ⟨fd_Town_steps, G_Town_steps, kp_Town_steps, b_Town_steps⟩ := o_Town_steps
  obtain ⟨fd_Town_falls, G_Town_falls, kp_Town_falls, b_Town_falls⟩ := o_Town_falls
  obtain ⟨fd_Town_written, G_Town_written, kp_Town_written, b_Town_written⟩ := o_Town_written
  refine ⟨fd, fnOkD F sc__law_wait_right (fun cdv A outer s H E hr => ?_), F.kp, F.bindsN fun _ _ _ _ _ _ us hl => match us, hl with | [_], _ => rfl⟩
  show SSs _ _ _ B__law_wait_right
  unfold B__law_wait_right T__law_wait_right_0 T__law_wait_right_1 T__law_wait_right_2 T__law_wait_right_3 T__law_wait_right_4 T__law_wait_right_5 T__law_wait_right_6
  exact (ss_cons (ss_set 1 sc__law_wait_right.nd (se_callL G__law_row_of (hr.mono (by decide)) (b.glo 29) kp__law_row_of b__law_row_of (takes_of rfl rfl rfl rfl) (sa_cons se_str sa_nil))) (ss_cons (ss_for (passes_of rfl) rfl (si_seqF (se_frzL (se_lst (sa_cons (se_tup (sa_cons se_str (sa_cons se_int (sa_cons (se_var 0) sa_nil)))) (sa_cons (se_tup (sa_cons se_str (sa_cons se_int (sa_cons se_int (sa_cons se_int sa_nil))))) sa_nil))))) (sg_name 2 sc__law_wait_right.nd) (ss_one (ss_expr (se_methL (se_var 1) (b.glo 0) (b.cls 1) (b.meth 82) G_Town_do (hr.mono (by decide)) b_Town_do (takes_of rfl rfl rfl rfl) (sa_cons (se_var 2) sa_nil))))) (ss_cons (ss_if (st_w (sw_or (st_cmp (or_ne (hu64 hr)) (se_methL0 (se_var 1) (b.glo 0) (b.cls 1) (b.meth 84) G_Town_under_way (hr.mono (by decide)) b_Town_under_way (takes_of rfl rfl rfl rfl)) (se_lst sa_nil) rfl) (sw_or (st_cmp (or_ne (hu64 hr)) (se_callL G_lost_by (hr.mono (by decide)) (b.glo 88) kp_lost_by b_lost_by (takes_of rfl rfl rfl rfl) (sa_cons (se_var 1) (sa_cons (se_tup (sa_cons se_int sa_nil)) sa_nil))) (se_tup (sa_cons se_int (sa_cons se_int (sa_cons se_int sa_nil)))) rfl) (sw_or1 (st_cmp (or_ne (hu64 hr)) (se_callL G_lost_by (hr.mono (by decide)) (b.glo 88) kp_lost_by b_lost_by (takes_of rfl rfl rfl rfl) (sa_cons (se_var 1) (sa_cons (se_tup (sa_cons se_int (sa_cons se_int sa_nil))) sa_nil))) (se_tup (sa_cons se_int (sa_cons se_int (sa_cons se_int sa_nil)))) rfl))))) (ss_one (ss_ret se_bl)) ss_nil) (ss_cons (ss_expr (se_methL (se_var 1) (b.glo 0) (b.cls 1) (b.meth 82) G_Town_do (hr.mono (by decide)) b_Town_do (takes_of rfl rfl rfl rfl) (sa_cons (se_tup (sa_cons se_str (sa_cons (se_tup (sa_cons se_int sa_nil)) sa_nil))) sa_nil))) (ss_cons (ss_if (st_w (sw_or (st_cmp (or_ne (hu64 hr)) (se_methL0 (se_var 1) (b.glo 0) (b.cls 1) (b.meth 84) G_Town_under_way (hr.mono (by decide)) b_Town_under_way (takes_of rfl rfl rfl rfl)) (se_lst (sa_cons (se_tup (sa_cons se_int (sa_cons se_int sa_nil))) sa_nil)) rfl) (sw_or (st_cmp (or_ne (hu64 hr)) (se_methL (se_var 1) (b.glo 0) (b.cls 1) (b.meth 91) G_Town_steps (hr.mono (by decide)) b_Town_steps (takes_of rfl rfl rfl rfl) (sa_cons se_int sa_nil)) se_int rfl) (sw_or1 (st_cmp (or_ne (hu64 hr)) (se_methL0 (se_var 1) (b.glo 0) (b.cls 1) (b.meth 87) G_Town_falls (hr.mono (by decide)) b_Town_falls (takes_of rfl rfl rfl rfl)) (se_lst (sa_cons (se_tup (sa_cons (se_tup (sa_cons se_int sa_nil)) (sa_cons (se_tup (sa_cons se_int (sa_cons se_int (sa_cons se_int sa_nil)))) sa_nil))) sa_nil)) rfl))))) (ss_one (ss_ret se_bl)) ss_nil) (ss_cons (ss_for (passes_of rfl) rfl (si_seqF (se_frzL (se_lst (sa_cons (se_tup (sa_cons se_str (sa_cons se_int (sa_cons se_int (sa_cons se_int sa_nil))))) (sa_cons (se_tup (sa_cons se_str (sa_cons se_int sa_nil))) (sa_cons (se_tup (sa_cons se_str (sa_cons se_int (sa_cons se_int (sa_cons se_int sa_nil))))) (sa_cons (se_tup (sa_cons se_str (sa_cons (se_tup (sa_cons se_int (sa_cons se_int sa_nil))) sa_nil))) sa_nil))))))) (sg_name 2 sc__law_wait_right.nd) (ss_one (ss_expr (se_methL (se_var 1) (b.glo 0) (b.cls 1) (b.meth 82) G_Town_do (hr.mono (by decide)) b_Town_do (takes_of rfl rfl rfl rfl) (sa_cons (se_var 2) sa_nil))))) (ss_one (ss_ret (se_and (se_cmp (or_eq (hu64 hr)) (se_ix (hu1 hr) (se_methL0 (se_var 1) (b.glo 0) (b.cls 1) (b.meth 87) G_Town_falls (hr.mono (by decide)) b_Town_falls (takes_of rfl rfl rfl rfl)) (se_neg se_int)) (se_tup (sa_cons (se_tup (sa_cons se_int (sa_cons se_int sa_nil))) (sa_cons (se_tup (sa_cons se_int (sa_cons se_int (sa_cons se_int sa_nil)))) sa_nil))) rfl) (se_and (se_cmp (or_eq (hu64 hr)) (se_methL0 (se_var 1) (b.glo 0) (b.cls 1) (b.meth 84) G_Town_under_way (hr.mono (by decide)) b_Town_under_way (takes_of rfl rfl rfl rfl)) (se_lst (sa_cons (se_tup (sa_cons se_int (sa_cons se_int sa_nil))) sa_nil)) rfl) (se_one (se_cmp (or_eq (hu64 hr)) (se_methL (se_var 1) (b.glo 0) (b.cls 1) (b.meth 92) G_Town_written (hr.mono (by decide)) b_Town_written (takes_of rfl rfl rfl rfl) (sa_cons se_int sa_nil)) se_int rfl))))))))))))
def Ok_Town_known (P : Program) (w : World) (K : PySem.W.Frag) (mg : Str → Option Value) (base : Heap) : Prop := ∃ fd, FnOk P w K mg base (L2.CX P w) 6 (He.fAd K ("Town", some "known")) fd ["self", "hand"] (spF mg K 2 M_Town_known) ∧ PySem.W.keepIn K (.ref (He.fAd K ("Town", some "known"))) = true ∧ Binds K fd ["self", "hand"] []
theorem ok_Town_known {base : Heap} (b : BG w K mg h)  (o_Town_bearing : Ok_Town_bearing P w K mg base) (o_Town_look_at_hand : Ok_Town_look_at_hand P w K mg base) : Ok_Town_known P w K mg base := by
  obtain ⟨fd, F⟩ := b.c.d.def_ 43 (d := d_Town_known) rfl
  obtain ⟨fd_Town_bearing, G_Town_bearing, kp_Town_bearing, b_Town_bearing⟩ := o_Town_bearing
  obtain ⟨fd_Town_look_at_hand, G_Town_look_at_hand, kp_Town_look_at_hand, b_Town_look_at_hand⟩ := o_Town_look_at_hand
  refine ⟨fd, fnOkD F sc_Town_known (fun cdv A outer s H E hr => ?_), F.kp, F.bindsN fun _ _ _ _ _ _ us hl => match us, hl with | [_, _], _ => rfl⟩
  show SSs _ _ _ B_Town_known
  unfold B_Town_known
  exact (ss_cons (ss_expr (se_methL (se_var 0) (b.glo 0) (b.cls 1) (b.meth 90) G_Town_look_at_hand (hr.mono (by decide)) b_Town_look_at_hand (takes_of rfl rfl rfl rfl) (sa_cons (se_var 1) sa_nil))) (ss_one (ss_ret (se_if (st_cmp (or_eq (hu64 hr)) (se_fld (b.fld 0 1 10) (se_var 0)) (se_gstr (by rfl) (b.str 70).choose_spec) rfl) (se_blt (cr_sortedA (by rfl) (hu18 hr)) (by rfl) (b.free 83) bb_sorted (sa_cons (se_ix (hu1 hr) (se_fld (b.fld 33 34 54) (se_methL0 (se_var 0) (b.glo 0) (b.cls 1) (b.meth 57) G_Town_bearing (hr.mono (by decide)) b_Town_bearing (takes_of rfl rfl rfl rfl))) (se_var 1)) sa_nil)) (se_lst sa_nil)))))
def Ok__law_along_right (P : Program) (w : World) (K : PySem.W.Frag) (mg : Str → Option Value) (base : Heap) : Prop := ∃ fd, FnOk P w K mg base (L2.CX P w) 11 (He.fAd K ("_law_along_right", none)) fd ["_law_worth"] (spF mg K 1 M__law_along_right) ∧ PySem.W.keepIn K (.ref (He.fAd K ("_law_along_right", none))) = true ∧ Binds K fd ["_law_worth"] []
theorem ok__law_along_right {base : Heap} (b : BG w K mg h)  (o__law_row_of : Ok__law_row_of P w K mg base) (o_Town_do : Ok_Town_do P w K mg base) (o_Town_known : Ok_Town_known P w K mg base) (o_lost_by : Ok_lost_by P w K mg base) (o_Town_steps : Ok_Town_steps P w K mg base) (o_Town_written : Ok_Town_written P w K mg base) (o_Town_under_way : Ok_Town_under_way P w K mg base) (o_Town_falls : Ok_Town_falls P w K mg base) : Ok__law_along_right P w K mg base := by
  obtain ⟨fd, F⟩ := b.c.d.def_ 44 (d := d__law_along_right) rfl
  obtain ⟨fd__law_row_of, G__law_row_of, kp__law_row_of, b__law_row_of⟩ := o__law_row_of
  obtain ⟨fd_Town_do, G_Town_do, kp_Town_do, b_Town_do⟩ := o_Town_do
  obtain ⟨fd_Town_known, G_Town_known, kp_Town_known, b_Town_known⟩ := o_Town_known
  obtain ⟨fd_lost_by, G_lost_by, kp_lost_by, b_lost_by⟩ := o_lost_by
  obtain ⟨fd_Town_steps, G_Town_steps, kp_Town_steps, b_Town_steps⟩ := o_Town_steps
  obtain ⟨fd_Town_written, G_Town_written, kp_Town_written, b_Town_written⟩ := o_Town_written
  obtain ⟨fd_Town_under_way, G_Town_under_way, kp_Town_under_way, b_Town_under_way⟩ := o_Town_under_way
  obtain ⟨fd_Town_falls, G_Town_falls, kp_Town_falls, b_Town_falls⟩ := o_Town_falls
  refine ⟨fd, fnOkD F sc__law_along_right (fun cdv A outer s H E hr => ?_), F.kp, F.bindsN fun _ _ _ _ _ _ us hl => match us, hl with | [_], _ => rfl⟩
  show SSs _ _ _ B__law_along_right
  unfold B__law_along_right T__law_along_right_0 T__law_along_right_1 T__law_along_right_2 T__law_along_right_3 T__law_along_right_4 T__law_along_right_5 T__law_along_right_6 T__law_along_right_7 T__law_along_right_8 T__law_along_right_9
  exact (ss_cons (ss_set 1 sc__law_along_right.nd (se_callL G__law_row_of (hr.mono (by decide)) (b.glo 29) kp__law_row_of b__law_row_of (takes_of rfl rfl rfl rfl) (sa_cons se_str sa_nil))) (ss_cons (ss_for (passes_of rfl) rfl (si_seqF (se_frzL (se_lst (sa_cons (se_tup (sa_cons se_str (sa_cons se_int (sa_cons (se_var 0) sa_nil)))) (sa_cons (se_tup (sa_cons se_str (sa_cons se_int (sa_cons se_int (sa_cons se_int sa_nil))))) (sa_cons (se_tup (sa_cons se_str (sa_cons se_int (sa_cons se_int (sa_cons se_int sa_nil))))) (sa_cons (se_tup (sa_cons se_str (sa_cons se_int (sa_cons se_int sa_nil)))) (sa_cons (se_tup (sa_cons se_str (sa_cons se_int (sa_cons se_int (sa_cons se_int sa_nil))))) sa_nil)))))))) (sg_name 2 sc__law_along_right.nd) (ss_one (ss_expr (se_methL (se_var 1) (b.glo 0) (b.cls 1) (b.meth 82) G_Town_do (hr.mono (by decide)) b_Town_do (takes_of rfl rfl rfl rfl) (sa_cons (se_var 2) sa_nil))))) (ss_cons (ss_expr (se_methL (se_var 1) (b.glo 0) (b.cls 1) (b.meth 82) G_Town_do (hr.mono (by decide)) b_Town_do (takes_of rfl rfl rfl rfl) (sa_cons (se_tup (sa_cons se_str (sa_cons se_int (sa_cons se_int (sa_cons se_int sa_nil))))) sa_nil))) (ss_cons (ss_if (st_w (sw_or (st_cmp (or_ne (hu64 hr)) (se_methL (se_var 1) (b.glo 0) (b.cls 1) (b.meth 94) G_Town_known (hr.mono (by decide)) b_Town_known (takes_of rfl rfl rfl rfl) (sa_cons se_int sa_nil)) (se_lst (sa_cons (se_tup (sa_cons se_int (sa_cons se_int sa_nil))) (sa_cons (se_tup (sa_cons se_int (sa_cons se_int sa_nil))) (sa_cons (se_tup (sa_cons se_int (sa_cons se_int sa_nil))) sa_nil)))) rfl) (sw_or1 (st_cmp (or_ne (hu64 hr)) (se_methL (se_var 1) (b.glo 0) (b.cls 1) (b.meth 94) G_Town_known (hr.mono (by decide)) b_Town_known (takes_of rfl rfl rfl rfl) (sa_cons se_int sa_nil)) (se_lst (sa_cons (se_tup (sa_cons se_int (sa_cons se_int sa_nil))) (sa_cons (se_tup (sa_cons se_int (sa_cons se_int sa_nil))) (sa_cons (se_tup (sa_cons se_int (sa_cons se_int sa_nil))) sa_nil)))) rfl)))) (ss_one (ss_ret se_bl)) ss_nil) (ss_cons (ss_if (st_cmp (or_ne (hu64 hr)) (se_methL (se_var 1) (b.glo 0) (b.cls 1) (b.meth 94) G_Town_known (hr.mono (by decide)) b_Town_known (takes_of rfl rfl rfl rfl) (sa_cons se_int sa_nil)) (se_lst (sa_cons (se_tup (sa_cons se_int (sa_cons se_int sa_nil))) sa_nil)) rfl) (ss_one (ss_ret se_bl)) ss_nil) (ss_cons (ss_if (st_w (sw_or (st_cmp (or_ne (hu64 hr)) (se_callL G_lost_by (hr.mono (by decide)) (b.glo 88) kp_lost_by b_lost_by (takes_of rfl rfl rfl rfl) (sa_cons (se_var 1) (sa_cons (se_tup (sa_cons se_int sa_nil)) sa_nil))) (se_tup (sa_cons se_int (sa_cons se_int (sa_cons se_int sa_nil)))) rfl) (sw_or (st_cmp (or_ne (hu64 hr)) (se_callL G_lost_by (hr.mono (by decide)) (b.glo 88) kp_lost_by b_lost_by (takes_of rfl rfl rfl rfl) (sa_cons (se_var 1) (sa_cons (se_tup (sa_cons se_int (sa_cons se_int sa_nil))) sa_nil))) (se_tup (sa_cons se_int (sa_cons se_int (sa_cons se_int sa_nil)))) rfl) (sw_or1 (st_cmp (or_ne (hu64 hr)) (se_callL G_lost_by (hr.mono (by decide)) (b.glo 88) kp_lost_by b_lost_by (takes_of rfl rfl rfl rfl) (sa_cons (se_var 1) (sa_cons (se_tup (sa_cons se_int (sa_cons se_int sa_nil))) sa_nil))) (se_tup (sa_cons se_int (sa_cons se_int (sa_cons se_int sa_nil)))) rfl))))) (ss_one (ss_ret se_bl)) ss_nil) (ss_cons (ss_expr (se_methL (se_var 1) (b.glo 0) (b.cls 1) (b.meth 82) G_Town_do (hr.mono (by decide)) b_Town_do (takes_of rfl rfl rfl rfl) (sa_cons (se_tup (sa_cons se_str (sa_cons (se_tup (sa_cons se_int (sa_cons se_int sa_nil))) sa_nil))) sa_nil))) (ss_cons (ss_if (st_w (sw_or (st_cmp (or_ne (hu64 hr)) (se_methL (se_var 1) (b.glo 0) (b.cls 1) (b.meth 91) G_Town_steps (hr.mono (by decide)) b_Town_steps (takes_of rfl rfl rfl rfl) (sa_cons se_int sa_nil)) se_int rfl) (sw_or (st_cmp (or_ne (hu64 hr)) (se_methL (se_var 1) (b.glo 0) (b.cls 1) (b.meth 92) G_Town_written (hr.mono (by decide)) b_Town_written (takes_of rfl rfl rfl rfl) (sa_cons se_int sa_nil)) se_int rfl) (sw_or1 (st_cmp (or_ne (hu64 hr)) (se_methL0 (se_var 1) (b.glo 0) (b.cls 1) (b.meth 84) G_Town_under_way (hr.mono (by decide)) b_Town_under_way (takes_of rfl rfl rfl rfl)) (se_lst (sa_cons (se_tup (sa_cons se_int (sa_cons se_int sa_nil))) (sa_cons (se_tup (sa_cons se_int (sa_cons se_int sa_nil))) sa_nil))) rfl))))) (ss_one (ss_ret se_bl)) ss_nil) (ss_cons (ss_expr (se_methL (se_var 1) (b.glo 0) (b.cls 1) (b.meth 82) G_Town_do (hr.mono (by decide)) b_Town_do (takes_of rfl rfl rfl rfl) (sa_cons (se_tup (sa_cons se_str (sa_cons (se_tup (sa_cons se_int sa_nil)) sa_nil))) sa_nil))) (ss_one (ss_ret (se_and (se_cmp (or_eq (hu64 hr)) (se_ix (hu1 hr) (se_methL0 (se_var 1) (b.glo 0) (b.cls 1) (b.meth 87) G_Town_falls (hr.mono (by decide)) b_Town_falls (takes_of rfl rfl rfl rfl)) (se_neg se_int)) (se_tup (sa_cons (se_tup (sa_cons se_int sa_nil)) (sa_cons (se_tup (sa_cons se_int (sa_cons se_int (sa_cons se_int sa_nil)))) sa_nil))) rfl) (se_one (se_cmp (or_eq (hu64 hr)) (se_methL0 (se_var 1) (b.glo 0) (b.cls 1) (b.meth 84) G_Town_under_way (hr.mono (by decide)) b_Town_under_way (takes_of rfl rfl rfl rfl)) (se_lst (sa_cons (se_tup (sa_cons se_int (sa_cons se_int sa_nil))) (sa_cons (se_tup (sa_cons se_int (sa_cons se_int sa_nil))) sa_nil))) rfl))))))))))))))
def Ok__law_take (P : Program) (w : World) (K : PySem.W.Frag) (mg : Str → Option Value) (base : Heap) : Prop := ∃ fd, FnOk P w K mg base (L2.CX P w) 2 (He.fAd K ("_law_take", none)) fd ["_law_pool_here", "_law_size"] (spF mg K 2 M__law_take) ∧ PySem.W.keepIn K (.ref (He.fAd K ("_law_take", none))) = true ∧ Binds K fd ["_law_pool_here", "_law_size"] []
theorem ok__law_take {base : Heap} (b : BG w K mg h)   : Ok__law_take P w K mg base := by
  obtain ⟨fd, F⟩ := b.c.d.def_ 45 (d := d__law_take) rfl
  refine ⟨fd, fnOkD F sc__law_take (fun cdv A outer s H E hr => ?_), F.kp, F.bindsN fun _ _ _ _ _ _ us hl => match us, hl with | [_, _], _ => rfl⟩
  show SSs _ _ _ B__law_take
  unfold B__law_take T__law_take_0 T__law_take_1 T__law_take_2
  exact (ss_cons (ss_if (st_cmp or_gtX (se_ix (hu1 hr) (se_var 0) se_int) se_int rfl) (ss_cons (ss_set 2 sc__law_take.nd (se_op or_mod (se_ix (hu1 hr) (se_var 0) se_int) (se_var 1))) (ss_cons (ss_asg (se_op or_fdiv (se_ix (hu1 hr) (se_var 0) se_int) (se_var 1)) (sg_sub (hu1 hr) (se_var 0) se_int)) (ss_one (ss_ret (se_var 2))))) ss_nil) (ss_cons (ss_asg (se_op or_mod (se_op or_add (se_op or_mul (se_ix (hu1 hr) (se_var 0) se_int) se_int) se_int) se_int) (sg_sub (hu1 hr) (se_var 0) se_int)) (ss_one (ss_ret (se_op or_mod (se_op or_fdiv (se_op or_mod (se_op or_mul (se_ix (hu1 hr) (se_var 0) se_int) (se_ix (hu1 hr) (se_var 0) se_int)) se_int) se_int) (se_var 1))))))
def Ok__law_pool (P : Program) (w : World) (K : PySem.W.Frag) (mg : Str → Option Value) (base : Heap) : Prop := ∃ fd, FnOk P w K mg base (L2.CX P w) 2 (He.fAd K ("_law_pool", none)) fd ["_law_script", "_law_k"] (spF mg K 2 M__law_pool) ∧ PySem.W.keepIn K (.ref (He.fAd K ("_law_pool", none))) = true ∧ Binds K fd ["_law_script", "_law_k"] []
theorem ok__law_pool {base : Heap} (b : BG w K mg h)   : Ok__law_pool P w K mg base := by
  obtain ⟨fd, F⟩ := b.c.d.def_ 46 (d := d__law_pool) rfl
  refine ⟨fd, fnOkD F sc__law_pool (fun cdv A outer s H E hr => ?_), F.kp, F.bindsN fun _ _ _ _ _ _ us hl => match us, hl with | [_, _], _ => rfl⟩
  show SSs _ _ _ B__law_pool
  unfold B__law_pool T__law_pool_0 T__law_pool_1 T__law_pool_2 T__law_pool_3
  exact (ss_cons (ss_set 2 sc__law_pool.nd se_int) (ss_cons (ss_if (st_cmp or_ltX (se_var 1) (se_blt cr_len (by rfl) (b.free 9) bb_len (sa_cons (se_var 0) sa_nil)) rfl) (ss_one (ss_set 2 sc__law_pool.nd (se_blt cr_abs (by rfl) (b.free 97) bb_abs (sa_cons (se_ix (hu1 hr) (se_var 0) (se_var 1)) sa_nil)))) ss_nil) (ss_cons (ss_set 3 sc__law_pool.nd (se_op or_mod (se_op or_mul (se_op or_add (se_op or_add (se_op or_mod (se_var 2) se_int) (se_op or_mul se_int (se_var 1))) se_int) se_int) se_int)) (ss_one (ss_ret (se_lst (sa_cons (se_op or_mul (se_var 2) (se_bty cr_int (by rfl) (b.free 16) bt_int (sa_cons (se_cmp or_geX (se_var 2) (se_op or_pow se_int se_int) rfl) sa_nil))) (sa_cons (se_var 3) sa_nil))))))))
def Ok_law (P : Program) (w : World) (K : PySem.W.Frag) (mg : Str → Option Value) (base : Heap) : Prop := ∃ fd, FnOk P w K mg base (L2.CX P w) 12 (He.fAd K ("law", none)) fd ["_law_script"] (spF mg K 1 M_law) ∧ PySem.W.keepIn K (.ref (He.fAd K ("law", none))) = true ∧ Binds K fd ["_law_script"] []
theorem ok_law {base : Heap} (b : BG w K mg h)  (o__law_free_right : Ok__law_free_right P w K mg base) (o__law_wait_right : Ok__law_wait_right P w K mg base) (o__law_along_right : Ok__law_along_right P w K mg base) (o__law_take : Ok__law_take P w K mg base) (o__law_pool : Ok__law_pool P w K mg base) {fd : FuncData} (F : FunD K d_law.name d_law.qual d_law.params d_law.body d_law.scope (d_law.dvs K) (d_law.kws K) (He.fAd K ("law", none)) fd) : FnOk P w K mg base (L2.CX P w) 12 (He.fAd K ("law", none)) fd ["_law_script"] (spF mg K 1 M_law) := by
  obtain ⟨fd__law_free_right, G__law_free_right, kp__law_free_right, b__law_free_right⟩ := o__law_free_right
  obtain ⟨fd__law_wait_right, G__law_wait_right, kp__law_wait_right, b__law_wait_right⟩ := o__law_wait_right
  obtain ⟨fd__law_along_right, G__law_along_right, kp__law_along_right, b__law_along_right⟩ := o__law_along_right
  obtain ⟨fd__law_take, G__law_take, kp__law_take, b__law_take⟩ := o__law_take
  obtain ⟨fd__law_pool, G__law_pool, kp__law_pool, b__law_pool⟩ := o__law_pool
  refine fnOkD F sc_law (fun cdv A outer s H E hr => ?_)
  show SSs _ _ _ B_law
  unfold B_law
  exact (ss_cons (ss_set 1 sc_law.nd (se_callL G__law_pool (hr.mono (by decide)) (b.glo 98) kp__law_pool b__law_pool (takes_of rfl rfl rfl rfl) (sa_cons (se_var 0) (sa_cons se_int sa_nil)))) (ss_cons (ss_set 2 sc_law.nd (se_callL G__law_take (hr.mono (by decide)) (b.glo 96) kp__law_take b__law_take (takes_of rfl rfl rfl rfl) (sa_cons (se_var 1) (sa_cons se_int sa_nil)))) (ss_one (ss_ret (se_and (se_callL G__law_free_right (hr.mono (by decide)) (b.glo 89) kp__law_free_right b__law_free_right (takes_of rfl rfl rfl rfl) (sa_cons (se_var 2) sa_nil)) (se_and (se_callL G__law_wait_right (hr.mono (by decide)) (b.glo 93) kp__law_wait_right b__law_wait_right (takes_of rfl rfl rfl rfl) (sa_cons (se_var 2) sa_nil)) (se_one (se_callL G__law_along_right (hr.mono (by decide)) (b.glo 95) kp__law_along_right b__law_along_right (takes_of rfl rfl rfl rfl) (sa_cons (se_var 2) sa_nil)))))))))
/-- all of them -/
theorem ok_all {base : Heap} (b : BG w K mg h) (e : ex K = true) {fd : FuncData} (F : FunD K d_law.name d_law.qual d_law.params d_law.body d_law.scope (d_law.dvs K) (d_law.kws K) (He.fAd K ("law", none)) fd) : FnOk P w K mg base (L2.CX P w) 12 (He.fAd K ("law", none)) fd ["_law_script"] (spF mg K 1 M_law) := by
  have kd_SIZES := kdt_SIZES b e
  have tq_WAYS := tqt_WAYS (K := K) e
  have o_is_whole : Ok_is_whole P w K mg base := ok_is_whole b 
  have o_is_within : Ok_is_within P w K mg base := ok_is_within b o_is_whole
  have o_are_targets : Ok_are_targets P w K mg base := ok_are_targets b o_is_within
  have o_are_tables : Ok_are_tables P w K mg base := ok_are_tables b o_are_targets
  have o_Town_init : Ok_Town_init P w K mg base := ok_Town_init b tq_WAYS o_are_tables
  have o__law_row_of : Ok__law_row_of P w K mg base := ok__law_row_of b o_Town_init
  have o_Town_take_over : Ok_Town_take_over P w K mg base := ok_Town_take_over b 
  have o_Town_first_untold : Ok_Town_first_untold P w K mg base := ok_Town_first_untold b 
  have o_taken_worth : Ok_taken_worth P w K mg base := ok_taken_worth b 
  have o_Going_do : Ok_Going_do P w K mg base := ok_Going_do b o_taken_worth
  have o_Going_init : Ok_Going_init P w K mg base := ok_Going_init b 
  have o_Town_going : Ok_Town_going P w K mg base := ok_Town_going b o_Going_do o_Going_init
  have o_Bearing_init : Ok_Bearing_init P w K mg base := ok_Bearing_init b 
  have o_Town_bearing : Ok_Town_bearing P w K mg base := ok_Town_bearing b o_Bearing_init
  have o_Town_tell : Ok_Town_tell P w K mg base := ok_Town_tell b o_Town_first_untold o_Town_going o_Town_bearing
  have o_Town_put : Ok_Town_put P w K mg base := ok_Town_put b 
  have o_Town_count_of : Ok_Town_count_of P w K mg base := ok_Town_count_of b 
  have o_Town_send_all : Ok_Town_send_all P w K mg base := ok_Town_send_all b o_Town_count_of o_Town_going
  have o_Going_can : Ok_Going_can P w K mg base := ok_Going_can b 
  have o_Town_step : Ok_Town_step P w K mg base := ok_Town_step b o_Town_send_all o_Town_count_of o_Going_can o_Town_going
  have o_Town_write : Ok_Town_write P w K mg base := ok_Town_write b o_Town_send_all
  have o_Town_back_by : Ok_Town_back_by P w K mg base := ok_Town_back_by b o_Town_count_of
  have o_Town_cut_down : Ok_Town_cut_down P w K mg base := ok_Town_cut_down b 
  have o_Town_kept_by : Ok_Town_kept_by P w K mg base := ok_Town_kept_by b o_Town_cut_down o_Town_count_of o_Town_bearing
  have o_Town_fall : Ok_Town_fall P w K mg base := ok_Town_fall b o_Town_back_by o_Town_kept_by
  have o_Town_settled_steps : Ok_Town_settled_steps P w K mg base := ok_Town_settled_steps b o_Town_kept_by
  have o_Town_clear : Ok_Town_clear P w K mg base := ok_Town_clear b o_Town_settled_steps
  have o_Town_do_form : Ok_Town_do_form P w K mg base := ok_Town_do_form b o_Town_put o_Town_step o_Town_write o_Town_count_of o_Town_fall o_Town_clear
  have o_Town_twin : Ok_Town_twin P w K mg base := ok_Town_twin b o_Town_take_over o_Town_init
  have o_Town_is_hand : Ok_Town_is_hand P w K mg base := ok_Town_is_hand b o_is_within
  have o_are_fallen : Ok_are_fallen P w K mg base := ok_are_fallen b o_is_within
  have o_Town_is_form : Ok_Town_is_form P w K mg base := ok_Town_is_form b kd_SIZES o_is_within o_Town_is_hand o_are_fallen
  have o_Town_do : Ok_Town_do P w K mg base := ok_Town_do b o_Town_take_over o_Town_tell o_Town_do_form o_Town_twin o_Town_is_form
  have o_Town_under_way : Ok_Town_under_way P w K mg base := ok_Town_under_way b o_Town_going
  have o_Town_told : Ok_Town_told P w K mg base := ok_Town_told b 
  have o_settled : Ok_settled P w K mg base := ok_settled b o_Town_settled_steps
  have o_Town_falls : Ok_Town_falls P w K mg base := ok_Town_falls b 
  have o_lost_by : Ok_lost_by P w K mg base := ok_lost_by b o_Town_falls o_Town_do o_Town_twin
  have o__law_free_right : Ok__law_free_right P w K mg base := ok__law_free_right b o__law_row_of o_Town_do o_Town_under_way o_Town_told o_settled o_lost_by
  have o_Town_look_at_hand : Ok_Town_look_at_hand P w K mg base := ok_Town_look_at_hand b o_Town_is_hand
  have o_Town_steps : Ok_Town_steps P w K mg base := ok_Town_steps b o_Town_count_of o_Town_look_at_hand
  have o_Town_written : Ok_Town_written P w K mg base := ok_Town_written b o_Town_look_at_hand
  have o__law_wait_right : Ok__law_wait_right P w K mg base := ok__law_wait_right b o__law_row_of o_Town_do o_Town_under_way o_lost_by o_Town_steps o_Town_falls o_Town_written
  have o_Town_known : Ok_Town_known P w K mg base := ok_Town_known b o_Town_bearing o_Town_look_at_hand
  have o__law_along_right : Ok__law_along_right P w K mg base := ok__law_along_right b o__law_row_of o_Town_do o_Town_known o_lost_by o_Town_steps o_Town_written o_Town_under_way o_Town_falls
  have o__law_take : Ok__law_take P w K mg base := ok__law_take b 
  have o__law_pool : Ok__law_pool P w K mg base := ok__law_pool b 
  exact ok_law b o__law_free_right o__law_wait_right o__law_along_right o__law_take o__law_pool F
end
end K42

namespace K42.Wait
open PySem L3 L2 K42
def kG0 (n : Nat) : GH := [(.ins "Town" [("own_tables", (.tup [(.tup [(.tup [(.int 1)])]), (.tup [(.tup [(.int 2)])]), (.tup [(.tup [(.int 3)])])])), ("own_way", (.str "wait")), ("own_many", (.int 3)), ("rows", (.obj 1)), ("own_written", (.obj 2)), ("told_rows", (.obj 3)), ("fall_rows", (.obj 4)), ("begun_from", (.obj 5)), ("done", (.obj 6))]), (.lst []), (.lst [(.int 0), (.int 0), (.int 0)]), (.lst []), (.lst []), (.lst [(.int 0), (.int 0), (.int 0)]), (.lst [])]
def kG1 (n : Nat) : GH := [(.ins "Town" [("own_tables", (.tup [(.tup [(.tup [(.int 1)])]), (.tup [(.tup [(.int 2)])]), (.tup [(.tup [(.int 3)])])])), ("own_way", (.str "wait")), ("own_many", (.int 3)), ("rows", (.obj 1)), ("own_written", (.obj 2)), ("told_rows", (.obj 3)), ("fall_rows", (.obj 4)), ("begun_from", (.obj 5)), ("done", (.obj 6))]), (.lst []), (.lst [(.int 0), (.int 0), (.int 0)]), (.lst []), (.lst []), (.lst [(.int 0), (.int 0), (.int 0)]), (.lst []), (.frz (.lst [(.tup [(.str "put"), (.int 0), (.int n)]), (.tup [(.str "step"), (.int 0), (.int 3), (.int 0)])]))]
def kH0 (n : Nat) : GH := [(.ins "Town" [("own_tables", (.tup [(.tup [(.tup [(.int 1)])]), (.tup [(.tup [(.int 2)])]), (.tup [(.tup [(.int 3)])])])), ("own_way", (.str "wait")), ("own_many", (.int 3)), ("rows", (.obj 1)), ("own_written", (.obj 2)), ("told_rows", (.obj 3)), ("fall_rows", (.obj 4)), ("begun_from", (.obj 5)), ("done", (.obj 6))]), (.lst []), (.lst [(.int 0), (.int 0), (.int 0)]), (.lst []), (.lst []), (.lst [(.int 0), (.int 0), (.int 0)]), (.lst [])]
def kH1 (n : Nat) : GH := [(.ins "Town" [("own_tables", (.tup [(.tup [(.tup [(.int 1)])]), (.tup [(.tup [(.int 2)])]), (.tup [(.tup [(.int 3)])])])), ("own_way", (.str "wait")), ("own_many", (.int 3)), ("rows", (.obj 14)), ("own_written", (.obj 15)), ("told_rows", (.obj 16)), ("fall_rows", (.obj 17)), ("begun_from", (.obj 18)), ("done", (.obj 19))]), (.lst []), (.lst [(.int 0), (.int 0), (.int 0)]), (.lst []), (.lst []), (.lst [(.int 0), (.int 0), (.int 0)]), (.lst []), (.ins "Town" [("own_tables", (.tup [(.tup [(.tup [(.int 1)])]), (.tup [(.tup [(.int 2)])]), (.tup [(.tup [(.int 3)])])])), ("own_way", (.str "wait")), ("own_many", (.int 3)), ("rows", (.obj 8)), ("own_written", (.obj 9)), ("told_rows", (.obj 10)), ("fall_rows", (.obj 11)), ("begun_from", (.obj 12)), ("done", (.obj 13))]), (.lst [(.tup [(.tup [(.str "own"), (.int 3), (.int n)]), (.int 0)]), (.tup [(.tup [(.str "send"), (.int 3), (.int 0)]), (.int 0)])]), (.lst [(.int 0), (.int 0), (.int 0)]), (.lst []), (.lst []), (.lst [(.int 0), (.int 0), (.int 0)]), (.lst []), (.lst [(.tup [(.tup [(.str "own"), (.int 3), (.int n)]), (.int 0)]), (.tup [(.tup [(.str "send"), (.int 3), (.int 0)]), (.int 0)])]), (.lst [(.int 0), (.int 0), (.int 0)]), (.lst []), (.lst []), (.lst [(.int 0), (.int 0), (.int 0)]), (.lst [(.tup [(.str "put"), (.int 0), (.int n)])])]
def kG2 (n : Nat) : GH := [(.ins "Town" [("own_tables", (.tup [(.tup [(.tup [(.int 1)])]), (.tup [(.tup [(.int 2)])]), (.tup [(.tup [(.int 3)])])])), ("own_way", (.str "wait")), ("own_many", (.int 3)), ("rows", (.obj 8)), ("own_written", (.obj 9)), ("told_rows", (.obj 10)), ("fall_rows", (.obj 11)), ("begun_from", (.obj 12)), ("done", (.obj 13))]), (.lst []), (.lst [(.int 0), (.int 0), (.int 0)]), (.lst []), (.lst []), (.lst [(.int 0), (.int 0), (.int 0)]), (.lst []), (.frz (.lst [(.tup [(.str "put"), (.int 0), (.int n)]), (.tup [(.str "step"), (.int 0), (.int 3), (.int 0)])])), (.lst [(.tup [(.tup [(.str "own"), (.int 3), (.int n)]), (.int 0)]), (.tup [(.tup [(.str "send"), (.int 3), (.int 0)]), (.int 0)])]), (.lst [(.int 0), (.int 0), (.int 0)]), (.lst []), (.lst []), (.lst [(.int 0), (.int 0), (.int 0)]), (.lst [(.tup [(.str "put"), (.int 0), (.int n)])])]
def kR (n : Nat) : Rho := [some (.int n), some (.obj 0), none]
def kR2 (n : Nat) : Rho := [some (.int n), some (.obj 0), some (.tup [(.str "put"), (.int 0), (.int n)])]
def kD (n : Nat) : D := (.tup [(.str "put"), (.int 0), (.int n)])
def kM (n : Nat) : List D := [(.tup [(.str "step"), (.int 0), (.int 3), (.int 0)])]
def kC (n : Nat) : Chk := []
def kIt : IM := (mItF (mFrzL (mLst (mCons (mTup (mCons (mC (.str "put")) (mCons (mC (.int 0)) (mCons (mVar 0) mNil)))) (mCons (mTup (mCons (mC (.str "step")) (mCons (mC (.int 0)) (mCons (mC (.int 3)) (mCons (mC (.int 0)) mNil))))) mNil)))))
def kB : SM := (sExp (mMethL "Town" "do" M_Town_do 2 (mVar 1) (mCons (mVar 2) mNil)))
def kRdo : SM := (sSeq (sAsg (mMethL "Town" "twin" M_Town_twin 1 (mVar 0) mNil) (gNm 2)) (sSeq (sExp (mMethL "Town" "do_form" M_Town_do_form 3 (mVar 2) (mCons (mOp2 opIx (mVar 1) (mC (.int 0))) (mCons (mSl (mVar 1) (mPart (mC (.int 1))) mNoP) mNil)))) (sSeq (sExp (mMethL "Town" "tell" M_Town_tell 1 (mVar 2) mNil)) (sSeq (sIf (mOp2 opGtX (mOpL opLen (mCons (mOp1 (opFld ["Town"] "rows") (mVar 2)) mNil)) (mC (.int 400))) sBad sSkip) (sSeq (sExp (mMethL "Town" "take_over" M_Town_take_over 2 (mVar 0) (mCons (mVar 2) mNil))) (sExp (mMt "list" opAppend (mOp1 (opFld ["Town"] "done") (mVar 0)) (mCons (mVar 1) mNil))))))))
def kRest : SM := (sSeq T__law_wait_right_2 (sSeq T__law_wait_right_3 (sSeq T__law_wait_right_4 (sSeq T__law_wait_right_5 T__law_wait_right_6))))
theorem k_0 (n : Nat) : T__law_wait_right_0 [some (.int n), none, none] [] = .ok (.nx (kR n)) (kG0 n) := by kernel_rfl
theorem k_it (n : Nat) : kIt (kR n) (kG0 n) = .ok (kD n :: kM n, kC n) (kG1 n) := by kernel_rfl
def kChk (n : Nat) : Bool := isRun (callL M_Town_is_form 2 [(.obj 0), kD n] (kH0 n)) (.bl true) (kH0 n)
theorem k_f0 : ((List.range 100).all fun i => kChk (0 + i)) = true := by kernel_rfl
theorem k_f1 : ((List.range 100).all fun i => kChk (100 + i)) = true := by kernel_rfl
theorem k_f2 : ((List.range 100).all fun i => kChk (200 + i)) = true := by kernel_rfl
theorem k_f3 : ((List.range 100).all fun i => kChk (300 + i)) = true := by kernel_rfl
theorem k_f4 : ((List.range 100).all fun i => kChk (400 + i)) = true := by kernel_rfl
theorem k_f5 : ((List.range 100).all fun i => kChk (500 + i)) = true := by kernel_rfl
theorem k_f6 : ((List.range 100).all fun i => kChk (600 + i)) = true := by kernel_rfl
theorem k_f7 : ((List.range 100).all fun i => kChk (700 + i)) = true := by kernel_rfl
theorem k_f8 : ((List.range 100).all fun i => kChk (800 + i)) = true := by kernel_rfl
theorem k_f9 : ((List.range 100).all fun i => kChk (900 + i)) = true := by kernel_rfl
theorem k_chk {n : Nat} (h : n < 1000) : kChk n = true := by
  have hm : n % 100 < 100 := Nat.mod_lt _ (by decide)
  have e : n = 100 * (n / 100) + n % 100 := (Nat.div_add_mod n 100).symm
  have hd : n / 100 < 10 := by omega
  generalize n / 100 = q at e hd
  generalize n % 100 = r at e hm
  subst e
  match q, hd with
  | 0, _ => exact of_range k_f0 hm
  | 1, _ => exact of_range k_f1 hm
  | 2, _ => exact of_range k_f2 hm
  | 3, _ => exact of_range k_f3 hm
  | 4, _ => exact of_range k_f4 hm
  | 5, _ => exact of_range k_f5 hm
  | 6, _ => exact of_range k_f6 hm
  | 7, _ => exact of_range k_f7 hm
  | 8, _ => exact of_range k_f8 hm
  | 9, _ => exact of_range k_f9 hm
theorem k_rdo (n : Nat) : kRdo [some (.obj 0), some (kD n), none] (kH0 n) = .ok (.nx [some (.obj 0), some (.tup [(.str "put"), (.int 0), (.int n)]), some (.obj 7)]) (kH1 n) := by kernel_rfl
theorem k_do {n : Nat} (h : n < 1000) : M_Town_do [(.obj 0), kD n] (kH0 n) = .ok .non (kH1 n) :=
  fnM_nx (N := 3) (B := B_Town_do) (ds := [(.obj 0), kD n]) ((seq_nx (b := kRdo) (sIf_f (mNot_ok ((meth_2L rfl rfl rfl rfl).trans (isRun_ok (k_chk h)))))).trans (k_rdo n))
theorem k_call {n : Nat} (h : n < 1000) : callL M_Town_do 2 [.obj 0, kD n] (kG1 n) = .ok .non (kG2 n) :=
  (callL_congr (M := M_Town_do) (ds := [.obj 0, kD n]) (g := kG1 n) (g0 := kH0 n) (ds0 := [(.obj 0), kD n]) rfl rfl (k_do h)).trans (by kernel_rfl)
theorem k_b {n : Nat} (h : n < 1000) : kB (kR2 n) (kG1 n) = .ok (.nx (kR2 n)) (kG2 n) := sExp_ok ((meth_2L rfl rfl rfl rfl).trans (k_call h))
theorem k_1 {n : Nat} (h : n < 1000) : T__law_wait_right_1 (kR n) (kG0 n) = forN (kC n) (gNm 2) kB (kM n) (kR2 n) (kG2 n) :=
  for_first (im := kIt) (t := gNm 2) (b := kB) (ρ := kR n) (ρ1 := kR2 n) (ρ2 := kR2 n) (g := kG0 n) (g1 := kG1 n) (g2 := kG1 n) (g3 := kG2 n) (d := kD n) (ds := kM n) (c := kC n) (k_it n) rfl rfl (k_b h) rfl
theorem k_rest (n : Nat) : isT ((forN (kC n) (gNm 2) kB (kM n) (kR2 n) (kG2 n)).nx kRest) = true := by kernel_rfl
theorem holds {n : Nat} (h : n < 1000) : ∃ g, M__law_wait_right [.int n] [] = .ok (.bl true) g := by
  obtain ⟨g, e⟩ := isT_ok (k_rest n)
  exact ⟨g, fnM_rt (N := 3) (B := B__law_wait_right) (ds := [.int n]) ((seq_nx (k_0 n)).trans ((seq_eq (k_1 h)).trans e))⟩
end K42.Wait

namespace K42.Along
open PySem L3 L2 K42
def kG0 (n : Nat) : GH := [(.ins "Town" [("own_tables", (.tup [(.tup [(.tup [(.int 1)])]), (.tup [(.tup [(.int 2)])]), (.tup [(.tup [(.int 3)])])])), ("own_way", (.str "along")), ("own_many", (.int 3)), ("rows", (.obj 1)), ("own_written", (.obj 2)), ("told_rows", (.obj 3)), ("fall_rows", (.obj 4)), ("begun_from", (.obj 5)), ("done", (.obj 6))]), (.lst []), (.lst [(.int 0), (.int 0), (.int 0)]), (.lst []), (.lst []), (.lst [(.int 0), (.int 0), (.int 0)]), (.lst [])]
def kG1 (n : Nat) : GH := [(.ins "Town" [("own_tables", (.tup [(.tup [(.tup [(.int 1)])]), (.tup [(.tup [(.int 2)])]), (.tup [(.tup [(.int 3)])])])), ("own_way", (.str "along")), ("own_many", (.int 3)), ("rows", (.obj 1)), ("own_written", (.obj 2)), ("told_rows", (.obj 3)), ("fall_rows", (.obj 4)), ("begun_from", (.obj 5)), ("done", (.obj 6))]), (.lst []), (.lst [(.int 0), (.int 0), (.int 0)]), (.lst []), (.lst []), (.lst [(.int 0), (.int 0), (.int 0)]), (.lst []), (.frz (.lst [(.tup [(.str "put"), (.int 0), (.int n)]), (.tup [(.str "step"), (.int 0), (.int 3), (.int 0)]), (.tup [(.str "step"), (.int 1), (.int 0), (.int 0)]), (.tup [(.str "put"), (.int 1), (.int 5)]), (.tup [(.str "step"), (.int 1), (.int 3), (.int 1)])]))]
def kH0 (n : Nat) : GH := [(.ins "Town" [("own_tables", (.tup [(.tup [(.tup [(.int 1)])]), (.tup [(.tup [(.int 2)])]), (.tup [(.tup [(.int 3)])])])), ("own_way", (.str "along")), ("own_many", (.int 3)), ("rows", (.obj 1)), ("own_written", (.obj 2)), ("told_rows", (.obj 3)), ("fall_rows", (.obj 4)), ("begun_from", (.obj 5)), ("done", (.obj 6))]), (.lst []), (.lst [(.int 0), (.int 0), (.int 0)]), (.lst []), (.lst []), (.lst [(.int 0), (.int 0), (.int 0)]), (.lst [])]
def kH1 (n : Nat) : GH := [(.ins "Town" [("own_tables", (.tup [(.tup [(.tup [(.int 1)])]), (.tup [(.tup [(.int 2)])]), (.tup [(.tup [(.int 3)])])])), ("own_way", (.str "along")), ("own_many", (.int 3)), ("rows", (.obj 14)), ("own_written", (.obj 15)), ("told_rows", (.obj 16)), ("fall_rows", (.obj 17)), ("begun_from", (.obj 18)), ("done", (.obj 19))]), (.lst []), (.lst [(.int 0), (.int 0), (.int 0)]), (.lst []), (.lst []), (.lst [(.int 0), (.int 0), (.int 0)]), (.lst []), (.ins "Town" [("own_tables", (.tup [(.tup [(.tup [(.int 1)])]), (.tup [(.tup [(.int 2)])]), (.tup [(.tup [(.int 3)])])])), ("own_way", (.str "along")), ("own_many", (.int 3)), ("rows", (.obj 8)), ("own_written", (.obj 9)), ("told_rows", (.obj 10)), ("fall_rows", (.obj 11)), ("begun_from", (.obj 12)), ("done", (.obj 13))]), (.lst [(.tup [(.tup [(.str "own"), (.int 3), (.int n)]), (.int 0)]), (.tup [(.tup [(.str "send"), (.int 3), (.int 0)]), (.int 0)])]), (.lst [(.int 0), (.int 0), (.int 0)]), (.lst []), (.lst []), (.lst [(.int 0), (.int 0), (.int 0)]), (.lst []), (.lst [(.tup [(.tup [(.str "own"), (.int 3), (.int n)]), (.int 0)]), (.tup [(.tup [(.str "send"), (.int 3), (.int 0)]), (.int 0)])]), (.lst [(.int 0), (.int 0), (.int 0)]), (.lst []), (.lst []), (.lst [(.int 0), (.int 0), (.int 0)]), (.lst [(.tup [(.str "put"), (.int 0), (.int n)])])]
def kG2 (n : Nat) : GH := [(.ins "Town" [("own_tables", (.tup [(.tup [(.tup [(.int 1)])]), (.tup [(.tup [(.int 2)])]), (.tup [(.tup [(.int 3)])])])), ("own_way", (.str "along")), ("own_many", (.int 3)), ("rows", (.obj 8)), ("own_written", (.obj 9)), ("told_rows", (.obj 10)), ("fall_rows", (.obj 11)), ("begun_from", (.obj 12)), ("done", (.obj 13))]), (.lst []), (.lst [(.int 0), (.int 0), (.int 0)]), (.lst []), (.lst []), (.lst [(.int 0), (.int 0), (.int 0)]), (.lst []), (.frz (.lst [(.tup [(.str "put"), (.int 0), (.int n)]), (.tup [(.str "step"), (.int 0), (.int 3), (.int 0)]), (.tup [(.str "step"), (.int 1), (.int 0), (.int 0)]), (.tup [(.str "put"), (.int 1), (.int 5)]), (.tup [(.str "step"), (.int 1), (.int 3), (.int 1)])])), (.lst [(.tup [(.tup [(.str "own"), (.int 3), (.int n)]), (.int 0)]), (.tup [(.tup [(.str "send"), (.int 3), (.int 0)]), (.int 0)])]), (.lst [(.int 0), (.int 0), (.int 0)]), (.lst []), (.lst []), (.lst [(.int 0), (.int 0), (.int 0)]), (.lst [(.tup [(.str "put"), (.int 0), (.int n)])])]
def kR (n : Nat) : Rho := [some (.int n), some (.obj 0), none]
def kR2 (n : Nat) : Rho := [some (.int n), some (.obj 0), some (.tup [(.str "put"), (.int 0), (.int n)])]
def kD (n : Nat) : D := (.tup [(.str "put"), (.int 0), (.int n)])
def kM (n : Nat) : List D := [(.tup [(.str "step"), (.int 0), (.int 3), (.int 0)]), (.tup [(.str "step"), (.int 1), (.int 0), (.int 0)]), (.tup [(.str "put"), (.int 1), (.int 5)]), (.tup [(.str "step"), (.int 1), (.int 3), (.int 1)])]
def kC (n : Nat) : Chk := []
def kIt : IM := (mItF (mFrzL (mLst (mCons (mTup (mCons (mC (.str "put")) (mCons (mC (.int 0)) (mCons (mVar 0) mNil)))) (mCons (mTup (mCons (mC (.str "step")) (mCons (mC (.int 0)) (mCons (mC (.int 3)) (mCons (mC (.int 0)) mNil))))) (mCons (mTup (mCons (mC (.str "step")) (mCons (mC (.int 1)) (mCons (mC (.int 0)) (mCons (mC (.int 0)) mNil))))) (mCons (mTup (mCons (mC (.str "put")) (mCons (mC (.int 1)) (mCons (mC (.int 5)) mNil)))) (mCons (mTup (mCons (mC (.str "step")) (mCons (mC (.int 1)) (mCons (mC (.int 3)) (mCons (mC (.int 1)) mNil))))) mNil))))))))
def kB : SM := (sExp (mMethL "Town" "do" M_Town_do 2 (mVar 1) (mCons (mVar 2) mNil)))
def kRdo : SM := (sSeq (sAsg (mMethL "Town" "twin" M_Town_twin 1 (mVar 0) mNil) (gNm 2)) (sSeq (sExp (mMethL "Town" "do_form" M_Town_do_form 3 (mVar 2) (mCons (mOp2 opIx (mVar 1) (mC (.int 0))) (mCons (mSl (mVar 1) (mPart (mC (.int 1))) mNoP) mNil)))) (sSeq (sExp (mMethL "Town" "tell" M_Town_tell 1 (mVar 2) mNil)) (sSeq (sIf (mOp2 opGtX (mOpL opLen (mCons (mOp1 (opFld ["Town"] "rows") (mVar 2)) mNil)) (mC (.int 400))) sBad sSkip) (sSeq (sExp (mMethL "Town" "take_over" M_Town_take_over 2 (mVar 0) (mCons (mVar 2) mNil))) (sExp (mMt "list" opAppend (mOp1 (opFld ["Town"] "done") (mVar 0)) (mCons (mVar 1) mNil))))))))
def kRest : SM := (sSeq T__law_along_right_2 (sSeq T__law_along_right_3 (sSeq T__law_along_right_4 (sSeq T__law_along_right_5 (sSeq T__law_along_right_6 (sSeq T__law_along_right_7 (sSeq T__law_along_right_8 T__law_along_right_9)))))))
theorem k_0 (n : Nat) : T__law_along_right_0 [some (.int n), none, none] [] = .ok (.nx (kR n)) (kG0 n) := by kernel_rfl
theorem k_it (n : Nat) : kIt (kR n) (kG0 n) = .ok (kD n :: kM n, kC n) (kG1 n) := by kernel_rfl
def kChk (n : Nat) : Bool := isRun (callL M_Town_is_form 2 [(.obj 0), kD n] (kH0 n)) (.bl true) (kH0 n)
theorem k_f0 : ((List.range 100).all fun i => kChk (0 + i)) = true := by kernel_rfl
theorem k_f1 : ((List.range 100).all fun i => kChk (100 + i)) = true := by kernel_rfl
theorem k_f2 : ((List.range 100).all fun i => kChk (200 + i)) = true := by kernel_rfl
theorem k_f3 : ((List.range 100).all fun i => kChk (300 + i)) = true := by kernel_rfl
theorem k_f4 : ((List.range 100).all fun i => kChk (400 + i)) = true := by kernel_rfl
theorem k_f5 : ((List.range 100).all fun i => kChk (500 + i)) = true := by kernel_rfl
theorem k_f6 : ((List.range 100).all fun i => kChk (600 + i)) = true := by kernel_rfl
theorem k_f7 : ((List.range 100).all fun i => kChk (700 + i)) = true := by kernel_rfl
theorem k_f8 : ((List.range 100).all fun i => kChk (800 + i)) = true := by kernel_rfl
theorem k_f9 : ((List.range 100).all fun i => kChk (900 + i)) = true := by kernel_rfl
theorem k_chk {n : Nat} (h : n < 1000) : kChk n = true := by
  have hm : n % 100 < 100 := Nat.mod_lt _ (by decide)
  have e : n = 100 * (n / 100) + n % 100 := (Nat.div_add_mod n 100).symm
  have hd : n / 100 < 10 := by omega
  generalize n / 100 = q at e hd
  generalize n % 100 = r at e hm
  subst e
  match q, hd with
  | 0, _ => exact of_range k_f0 hm
  | 1, _ => exact of_range k_f1 hm
  | 2, _ => exact of_range k_f2 hm
  | 3, _ => exact of_range k_f3 hm
  | 4, _ => exact of_range k_f4 hm
  | 5, _ => exact of_range k_f5 hm
  | 6, _ => exact of_range k_f6 hm
  | 7, _ => exact of_range k_f7 hm
  | 8, _ => exact of_range k_f8 hm
  | 9, _ => exact of_range k_f9 hm
theorem k_rdo (n : Nat) : kRdo [some (.obj 0), some (kD n), none] (kH0 n) = .ok (.nx [some (.obj 0), some (.tup [(.str "put"), (.int 0), (.int n)]), some (.obj 7)]) (kH1 n) := by kernel_rfl
theorem k_do {n : Nat} (h : n < 1000) : M_Town_do [(.obj 0), kD n] (kH0 n) = .ok .non (kH1 n) :=
  fnM_nx (N := 3) (B := B_Town_do) (ds := [(.obj 0), kD n]) ((seq_nx (b := kRdo) (sIf_f (mNot_ok ((meth_2L rfl rfl rfl rfl).trans (isRun_ok (k_chk h)))))).trans (k_rdo n))
theorem k_call {n : Nat} (h : n < 1000) : callL M_Town_do 2 [.obj 0, kD n] (kG1 n) = .ok .non (kG2 n) :=
  (callL_congr (M := M_Town_do) (ds := [.obj 0, kD n]) (g := kG1 n) (g0 := kH0 n) (ds0 := [(.obj 0), kD n]) rfl rfl (k_do h)).trans (by kernel_rfl)
theorem k_b {n : Nat} (h : n < 1000) : kB (kR2 n) (kG1 n) = .ok (.nx (kR2 n)) (kG2 n) := sExp_ok ((meth_2L rfl rfl rfl rfl).trans (k_call h))
theorem k_1 {n : Nat} (h : n < 1000) : T__law_along_right_1 (kR n) (kG0 n) = forN (kC n) (gNm 2) kB (kM n) (kR2 n) (kG2 n) :=
  for_first (im := kIt) (t := gNm 2) (b := kB) (ρ := kR n) (ρ1 := kR2 n) (ρ2 := kR2 n) (g := kG0 n) (g1 := kG1 n) (g2 := kG1 n) (g3 := kG2 n) (d := kD n) (ds := kM n) (c := kC n) (k_it n) rfl rfl (k_b h) rfl
theorem k_rest (n : Nat) : isT ((forN (kC n) (gNm 2) kB (kM n) (kR2 n) (kG2 n)).nx kRest) = true := by kernel_rfl
theorem holds {n : Nat} (h : n < 1000) : ∃ g, M__law_along_right [.int n] [] = .ok (.bl true) g := by
  obtain ⟨g, e⟩ := isT_ok (k_rest n)
  exact ⟨g, fnM_rt (N := 3) (B := B__law_along_right) (ds := [.int n]) ((seq_nx (k_0 n)).trans ((seq_eq (k_1 h)).trans e))⟩
end K42.Along

namespace K42.Free
open PySem L3 L2 K42
def kG0 (n : Nat) : GH := [(.ins "Town" [("own_tables", (.tup [(.tup [(.tup [(.int 1)])]), (.tup [(.tup [(.int 2)])]), (.tup [(.tup [(.int 3)])])])), ("own_way", (.str "free")), ("own_many", (.int 3)), ("rows", (.obj 1)), ("own_written", (.obj 2)), ("told_rows", (.obj 3)), ("fall_rows", (.obj 4)), ("begun_from", (.obj 5)), ("done", (.obj 6))]), (.lst []), (.lst [(.int 0), (.int 0), (.int 0)]), (.lst []), (.lst []), (.lst [(.int 0), (.int 0), (.int 0)]), (.lst [])]
def kG1 (n : Nat) : GH := [(.ins "Town" [("own_tables", (.tup [(.tup [(.tup [(.int 1)])]), (.tup [(.tup [(.int 2)])]), (.tup [(.tup [(.int 3)])])])), ("own_way", (.str "free")), ("own_many", (.int 3)), ("rows", (.obj 1)), ("own_written", (.obj 2)), ("told_rows", (.obj 3)), ("fall_rows", (.obj 4)), ("begun_from", (.obj 5)), ("done", (.obj 6))]), (.lst []), (.lst [(.int 0), (.int 0), (.int 0)]), (.lst []), (.lst []), (.lst [(.int 0), (.int 0), (.int 0)]), (.lst []), (.frz (.lst [(.tup [(.str "put"), (.int 0), (.int n)]), (.tup [(.str "step"), (.int 0), (.int 3), (.int 0)]), (.tup [(.str "step"), (.int 1), (.int 0), (.int 0)]), (.tup [(.str "step"), (.int 2), (.int 1), (.int 0)])]))]
def kH0 (n : Nat) : GH := [(.ins "Town" [("own_tables", (.tup [(.tup [(.tup [(.int 1)])]), (.tup [(.tup [(.int 2)])]), (.tup [(.tup [(.int 3)])])])), ("own_way", (.str "free")), ("own_many", (.int 3)), ("rows", (.obj 1)), ("own_written", (.obj 2)), ("told_rows", (.obj 3)), ("fall_rows", (.obj 4)), ("begun_from", (.obj 5)), ("done", (.obj 6))]), (.lst []), (.lst [(.int 0), (.int 0), (.int 0)]), (.lst []), (.lst []), (.lst [(.int 0), (.int 0), (.int 0)]), (.lst [])]
def kH1 (n : Nat) : GH := [(.ins "Town" [("own_tables", (.tup [(.tup [(.tup [(.int 1)])]), (.tup [(.tup [(.int 2)])]), (.tup [(.tup [(.int 3)])])])), ("own_way", (.str "free")), ("own_many", (.int 3)), ("rows", (.obj 14)), ("own_written", (.obj 15)), ("told_rows", (.obj 16)), ("fall_rows", (.obj 17)), ("begun_from", (.obj 18)), ("done", (.obj 19))]), (.lst []), (.lst [(.int 0), (.int 0), (.int 0)]), (.lst []), (.lst []), (.lst [(.int 0), (.int 0), (.int 0)]), (.lst []), (.ins "Town" [("own_tables", (.tup [(.tup [(.tup [(.int 1)])]), (.tup [(.tup [(.int 2)])]), (.tup [(.tup [(.int 3)])])])), ("own_way", (.str "free")), ("own_many", (.int 3)), ("rows", (.obj 8)), ("own_written", (.obj 9)), ("told_rows", (.obj 10)), ("fall_rows", (.obj 11)), ("begun_from", (.obj 12)), ("done", (.obj 13))]), (.lst [(.tup [(.tup [(.str "own"), (.int 3), (.int n)]), (.int 0)]), (.tup [(.tup [(.str "send"), (.int 3), (.int 0)]), (.int 0)])]), (.lst [(.int 0), (.int 0), (.int 0)]), (.lst []), (.lst []), (.lst [(.int 0), (.int 0), (.int 0)]), (.lst []), (.lst [(.tup [(.tup [(.str "own"), (.int 3), (.int n)]), (.int 0)]), (.tup [(.tup [(.str "send"), (.int 3), (.int 0)]), (.int 0)])]), (.lst [(.int 0), (.int 0), (.int 0)]), (.lst []), (.lst []), (.lst [(.int 0), (.int 0), (.int 0)]), (.lst [(.tup [(.str "put"), (.int 0), (.int n)])])]
def kG2 (n : Nat) : GH := [(.ins "Town" [("own_tables", (.tup [(.tup [(.tup [(.int 1)])]), (.tup [(.tup [(.int 2)])]), (.tup [(.tup [(.int 3)])])])), ("own_way", (.str "free")), ("own_many", (.int 3)), ("rows", (.obj 8)), ("own_written", (.obj 9)), ("told_rows", (.obj 10)), ("fall_rows", (.obj 11)), ("begun_from", (.obj 12)), ("done", (.obj 13))]), (.lst []), (.lst [(.int 0), (.int 0), (.int 0)]), (.lst []), (.lst []), (.lst [(.int 0), (.int 0), (.int 0)]), (.lst []), (.frz (.lst [(.tup [(.str "put"), (.int 0), (.int n)]), (.tup [(.str "step"), (.int 0), (.int 3), (.int 0)]), (.tup [(.str "step"), (.int 1), (.int 0), (.int 0)]), (.tup [(.str "step"), (.int 2), (.int 1), (.int 0)])])), (.lst [(.tup [(.tup [(.str "own"), (.int 3), (.int n)]), (.int 0)]), (.tup [(.tup [(.str "send"), (.int 3), (.int 0)]), (.int 0)])]), (.lst [(.int 0), (.int 0), (.int 0)]), (.lst []), (.lst []), (.lst [(.int 0), (.int 0), (.int 0)]), (.lst [(.tup [(.str "put"), (.int 0), (.int n)])])]
def kR (n : Nat) : Rho := [some (.int n), some (.obj 0), none, none, none, none]
def kR2 (n : Nat) : Rho := [some (.int n), some (.obj 0), some (.tup [(.str "put"), (.int 0), (.int n)]), none, none, none]
def kD (n : Nat) : D := (.tup [(.str "put"), (.int 0), (.int n)])
def kM (n : Nat) : List D := [(.tup [(.str "step"), (.int 0), (.int 3), (.int 0)]), (.tup [(.str "step"), (.int 1), (.int 0), (.int 0)]), (.tup [(.str "step"), (.int 2), (.int 1), (.int 0)])]
def kC (n : Nat) : Chk := []
def kIt : IM := (mItF (mFrzL (mLst (mCons (mTup (mCons (mC (.str "put")) (mCons (mC (.int 0)) (mCons (mVar 0) mNil)))) (mCons (mTup (mCons (mC (.str "step")) (mCons (mC (.int 0)) (mCons (mC (.int 3)) (mCons (mC (.int 0)) mNil))))) (mCons (mTup (mCons (mC (.str "step")) (mCons (mC (.int 1)) (mCons (mC (.int 0)) (mCons (mC (.int 0)) mNil))))) (mCons (mTup (mCons (mC (.str "step")) (mCons (mC (.int 2)) (mCons (mC (.int 1)) (mCons (mC (.int 0)) mNil))))) mNil)))))))
def kB : SM := (sExp (mMethL "Town" "do" M_Town_do 2 (mVar 1) (mCons (mVar 2) mNil)))
def kRdo : SM := (sSeq (sAsg (mMethL "Town" "twin" M_Town_twin 1 (mVar 0) mNil) (gNm 2)) (sSeq (sExp (mMethL "Town" "do_form" M_Town_do_form 3 (mVar 2) (mCons (mOp2 opIx (mVar 1) (mC (.int 0))) (mCons (mSl (mVar 1) (mPart (mC (.int 1))) mNoP) mNil)))) (sSeq (sExp (mMethL "Town" "tell" M_Town_tell 1 (mVar 2) mNil)) (sSeq (sIf (mOp2 opGtX (mOpL opLen (mCons (mOp1 (opFld ["Town"] "rows") (mVar 2)) mNil)) (mC (.int 400))) sBad sSkip) (sSeq (sExp (mMethL "Town" "take_over" M_Town_take_over 2 (mVar 0) (mCons (mVar 2) mNil))) (sExp (mMt "list" opAppend (mOp1 (opFld ["Town"] "done") (mVar 0)) (mCons (mVar 1) mNil))))))))
def kRest : SM := (sSeq T__law_free_right_2 (sSeq T__law_free_right_3 (sSeq T__law_free_right_4 (sSeq T__law_free_right_5 (sSeq T__law_free_right_6 (sSeq T__law_free_right_7 (sSeq T__law_free_right_8 (sSeq T__law_free_right_9 T__law_free_right_10))))))))
theorem k_0 (n : Nat) : T__law_free_right_0 [some (.int n), none, none, none, none, none] [] = .ok (.nx (kR n)) (kG0 n) := by kernel_rfl
theorem k_it (n : Nat) : kIt (kR n) (kG0 n) = .ok (kD n :: kM n, kC n) (kG1 n) := by kernel_rfl
def kChk (n : Nat) : Bool := isRun (callL M_Town_is_form 2 [(.obj 0), kD n] (kH0 n)) (.bl true) (kH0 n)
theorem k_f0 : ((List.range 100).all fun i => kChk (0 + i)) = true := by kernel_rfl
theorem k_f1 : ((List.range 100).all fun i => kChk (100 + i)) = true := by kernel_rfl
theorem k_f2 : ((List.range 100).all fun i => kChk (200 + i)) = true := by kernel_rfl
theorem k_f3 : ((List.range 100).all fun i => kChk (300 + i)) = true := by kernel_rfl
theorem k_f4 : ((List.range 100).all fun i => kChk (400 + i)) = true := by kernel_rfl
theorem k_f5 : ((List.range 100).all fun i => kChk (500 + i)) = true := by kernel_rfl
theorem k_f6 : ((List.range 100).all fun i => kChk (600 + i)) = true := by kernel_rfl
theorem k_f7 : ((List.range 100).all fun i => kChk (700 + i)) = true := by kernel_rfl
theorem k_f8 : ((List.range 100).all fun i => kChk (800 + i)) = true := by kernel_rfl
theorem k_f9 : ((List.range 100).all fun i => kChk (900 + i)) = true := by kernel_rfl
theorem k_chk {n : Nat} (h : n < 1000) : kChk n = true := by
  have hm : n % 100 < 100 := Nat.mod_lt _ (by decide)
  have e : n = 100 * (n / 100) + n % 100 := (Nat.div_add_mod n 100).symm
  have hd : n / 100 < 10 := by omega
  generalize n / 100 = q at e hd
  generalize n % 100 = r at e hm
  subst e
  match q, hd with
  | 0, _ => exact of_range k_f0 hm
  | 1, _ => exact of_range k_f1 hm
  | 2, _ => exact of_range k_f2 hm
  | 3, _ => exact of_range k_f3 hm
  | 4, _ => exact of_range k_f4 hm
  | 5, _ => exact of_range k_f5 hm
  | 6, _ => exact of_range k_f6 hm
  | 7, _ => exact of_range k_f7 hm
  | 8, _ => exact of_range k_f8 hm
  | 9, _ => exact of_range k_f9 hm
theorem k_rdo (n : Nat) : kRdo [some (.obj 0), some (kD n), none] (kH0 n) = .ok (.nx [some (.obj 0), some (.tup [(.str "put"), (.int 0), (.int n)]), some (.obj 7)]) (kH1 n) := by kernel_rfl
theorem k_do {n : Nat} (h : n < 1000) : M_Town_do [(.obj 0), kD n] (kH0 n) = .ok .non (kH1 n) :=
  fnM_nx (N := 3) (B := B_Town_do) (ds := [(.obj 0), kD n]) ((seq_nx (b := kRdo) (sIf_f (mNot_ok ((meth_2L rfl rfl rfl rfl).trans (isRun_ok (k_chk h)))))).trans (k_rdo n))
theorem k_call {n : Nat} (h : n < 1000) : callL M_Town_do 2 [.obj 0, kD n] (kG1 n) = .ok .non (kG2 n) :=
  (callL_congr (M := M_Town_do) (ds := [.obj 0, kD n]) (g := kG1 n) (g0 := kH0 n) (ds0 := [(.obj 0), kD n]) rfl rfl (k_do h)).trans (by kernel_rfl)
theorem k_b {n : Nat} (h : n < 1000) : kB (kR2 n) (kG1 n) = .ok (.nx (kR2 n)) (kG2 n) := sExp_ok ((meth_2L rfl rfl rfl rfl).trans (k_call h))
theorem k_1 {n : Nat} (h : n < 1000) : T__law_free_right_1 (kR n) (kG0 n) = forN (kC n) (gNm 2) kB (kM n) (kR2 n) (kG2 n) :=
  for_first (im := kIt) (t := gNm 2) (b := kB) (ρ := kR n) (ρ1 := kR2 n) (ρ2 := kR2 n) (g := kG0 n) (g1 := kG1 n) (g2 := kG1 n) (g3 := kG2 n) (d := kD n) (ds := kM n) (c := kC n) (k_it n) rfl rfl (k_b h) rfl
def kR9 (n : Nat) : Rho := [some (.int n), some (.obj 0), some (.tup [(.str "step"), (.int 2), (.int 1), (.int 0)]), some (.int 1), some (.int (imod (n + 1) 1000)), some (.int (imod (imod (n + 1) 1000 + 1) 1000))]
def kG9 (n : Nat) : GH := [(.ins "Town" [("own_tables", (.tup [(.tup [(.tup [(.int 1)])]), (.tup [(.tup [(.int 2)])]), (.tup [(.tup [(.int 3)])])])), ("own_way", (.str "free")), ("own_many", (.int 3)), ("rows", (.obj 51)), ("own_written", (.obj 52)), ("told_rows", (.obj 53)), ("fall_rows", (.obj 54)), ("begun_from", (.obj 55)), ("done", (.obj 56))]), (.lst []), (.lst [(.int 0), (.int 0), (.int 0)]), (.lst []), (.lst []), (.lst [(.int 0), (.int 0), (.int 0)]), (.lst []), (.frz (.lst [(.tup [(.str "put"), (.int 0), (.int n)]), (.tup [(.str "step"), (.int 0), (.int 3), (.int 0)]), (.tup [(.str "step"), (.int 1), (.int 0), (.int 0)]), (.tup [(.str "step"), (.int 2), (.int 1), (.int 0)])])), (.lst [(.tup [(.tup [(.str "own"), (.int 3), (.int n)]), (.int 0)]), (.tup [(.tup [(.str "send"), (.int 3), (.int 0)]), (.int 0)])]), (.lst [(.int 0), (.int 0), (.int 0)]), (.lst []), (.lst []), (.lst [(.int 0), (.int 0), (.int 0)]), (.lst [(.tup [(.str "put"), (.int 0), (.int n)])]), (.lst [(.tup [(.tup [(.str "own"), (.int 3), (.int n)]), (.int 0)]), (.tup [(.tup [(.str "send"), (.int 3), (.int 0)]), (.int 0)]), (.tup [(.tup [(.str "take"), (.int 0), (.int 3), (.int 0)]), (.int 1)]), (.tup [(.tup [(.str "send"), (.int 0), (.int 1)]), (.int 1)])]), (.lst [(.int 0), (.int 0), (.int 0)]), (.lst []), (.lst []), (.lst [(.int 0), (.int 0), (.int 0)]), (.lst [(.tup [(.str "put"), (.int 0), (.int n)]), (.tup [(.str "step"), (.int 0), (.int 3), (.int 0)])]), (.lst [(.tup [(.tup [(.str "own"), (.int 3), (.int n)]), (.int 0)]), (.tup [(.tup [(.str "send"), (.int 3), (.int 0)]), (.int 0)]), (.tup [(.tup [(.str "take"), (.int 0), (.int 3), (.int 0)]), (.int 1)]), (.tup [(.tup [(.str "send"), (.int 0), (.int 1)]), (.int 1)]), (.tup [(.tup [(.str "take"), (.int 1), (.int 0), (.int 0)]), (.int 1)]), (.tup [(.tup [(.str "send"), (.int 1), (.int 2)]), (.int 1)])]), (.lst [(.int 0), (.int 0), (.int 0)]), (.lst []), (.lst []), (.lst [(.int 0), (.int 0), (.int 0)]), (.lst [(.tup [(.str "put"), (.int 0), (.int n)]), (.tup [(.str "step"), (.int 0), (.int 3), (.int 0)]), (.tup [(.str "step"), (.int 1), (.int 0), (.int 0)])]), (.lst [(.tup [(.tup [(.str "own"), (.int 3), (.int n)]), (.int 0)]), (.tup [(.tup [(.str "send"), (.int 3), (.int 0)]), (.int 0)]), (.tup [(.tup [(.str "take"), (.int 0), (.int 3), (.int 0)]), (.int 1)]), (.tup [(.tup [(.str "send"), (.int 0), (.int 1)]), (.int 1)]), (.tup [(.tup [(.str "take"), (.int 1), (.int 0), (.int 0)]), (.int 1)]), (.tup [(.tup [(.str "send"), (.int 1), (.int 2)]), (.int 1)]), (.tup [(.tup [(.str "take"), (.int 2), (.int 1), (.int 0)]), (.int 1)]), (.tup [(.tup [(.str "send"), (.int 2), (.int 3)]), (.int 1)])]), (.lst [(.int 0), (.int 0), (.int 0)]), (.lst []), (.lst []), (.lst [(.int 0), (.int 0), (.int 0)]), (.lst [(.tup [(.str "put"), (.int 0), (.int n)]), (.tup [(.str "step"), (.int 0), (.int 3), (.int 0)]), (.tup [(.str "step"), (.int 1), (.int 0), (.int 0)]), (.tup [(.str "step"), (.int 2), (.int 1), (.int 0)])]), (.lst [(.tup [(.int 2), (.int 0)])]), (.lst [(.tup [(.int 2), (.int 0)])]), (.lst []), (.lst []), (.lst [(.int 2), (.int 1)]), (.lst [(.tup [(.tup [(.str "own"), (.int 3), (.int n)]), (.int 0)]), (.tup [(.tup [(.str "send"), (.int 3), (.int 0)]), (.int 0)]), (.tup [(.tup [(.str "take"), (.int 0), (.int 3), (.int 0)]), (.int 1)]), (.tup [(.tup [(.str "send"), (.int 0), (.int 1)]), (.int 1)]), (.tup [(.tup [(.str "take"), (.int 1), (.int 0), (.int 0)]), (.int 1)]), (.tup [(.tup [(.str "send"), (.int 1), (.int 2)]), (.int 1)]), (.tup [(.tup [(.str "take"), (.int 2), (.int 1), (.int 0)]), (.int 1)]), (.tup [(.tup [(.str "send"), (.int 2), (.int 3)]), (.int 1)])]), (.lst [(.int 0), (.int 0), (.int 1)]), (.lst []), (.lst []), (.lst [(.int 0), (.int 0), (.int 0)]), (.lst [(.tup [(.str "put"), (.int 0), (.int n)]), (.tup [(.str "step"), (.int 0), (.int 3), (.int 0)]), (.tup [(.str "step"), (.int 1), (.int 0), (.int 0)]), (.tup [(.str "step"), (.int 2), (.int 1), (.int 0)]), (.tup [(.str "write"), (.int 2)])]), (.lst [(.tup [(.tup [(.str "own"), (.int 3), (.int n)]), (.int 0)]), (.tup [(.tup [(.str "send"), (.int 3), (.int 0)]), (.int 0)]), (.tup [(.tup [(.str "take"), (.int 0), (.int 3), (.int 0)]), (.int 1)]), (.tup [(.tup [(.str "send"), (.int 0), (.int 1)]), (.int 1)]), (.tup [(.tup [(.str "take"), (.int 1), (.int 0), (.int 0)]), (.int 1)]), (.tup [(.tup [(.str "send"), (.int 1), (.int 2)]), (.int 1)]), (.tup [(.tup [(.str "take"), (.int 2), (.int 1), (.int 0)]), (.int 1)]), (.tup [(.tup [(.str "send"), (.int 2), (.int 3)]), (.int 1)])]), (.lst [(.int 0), (.int 1), (.int 1)]), (.lst []), (.lst []), (.lst [(.int 0), (.int 0), (.int 0)]), (.lst [(.tup [(.str "put"), (.int 0), (.int n)]), (.tup [(.str "step"), (.int 0), (.int 3), (.int 0)]), (.tup [(.str "step"), (.int 1), (.int 0), (.int 0)]), (.tup [(.str "step"), (.int 2), (.int 1), (.int 0)]), (.tup [(.str "write"), (.int 2)]), (.tup [(.str "write"), (.int 1)])]), (.lst []), (.lst []), (.lst [(.tup [(.tup [(.str "own"), (.int 3), (.int n)]), (.int 0)]), (.tup [(.tup [(.str "send"), (.int 3), (.int 0)]), (.int 0)]), (.tup [(.tup [(.str "take"), (.int 0), (.int 3), (.int 0)]), (.int 1)]), (.tup [(.tup [(.str "send"), (.int 0), (.int 1)]), (.int 1)]), (.tup [(.tup [(.str "take"), (.int 1), (.int 0), (.int 0)]), (.int 1)]), (.tup [(.tup [(.str "send"), (.int 1), (.int 2)]), (.int 1)]), (.tup [(.tup [(.str "take"), (.int 2), (.int 1), (.int 0)]), (.int 1)]), (.tup [(.tup [(.str "send"), (.int 2), (.int 3)]), (.int 1)]), (.tup [(.tup [(.str "take"), (.int 3), (.int 2), (.int 0)]), (.int 0)])]), (.lst [(.int 1), (.int 1), (.int 1)]), (.lst [(.tup [(.int 2), (.int 0), (.int (imod (3 * 0 + imod (3 * 0 + imod (3 * 0 + n + 1) (999 + 1) + 1) (999 + 1) + 1) (999 + 1)))])]), (.lst []), (.lst [(.int 0), (.int 0), (.int 0)]), (.lst [(.tup [(.str "put"), (.int 0), (.int n)]), (.tup [(.str "step"), (.int 0), (.int 3), (.int 0)]), (.tup [(.str "step"), (.int 1), (.int 0), (.int 0)]), (.tup [(.str "step"), (.int 2), (.int 1), (.int 0)]), (.tup [(.str "write"), (.int 2)]), (.tup [(.str "write"), (.int 1)]), (.tup [(.str "write"), (.int 0)])])]
def kG10 (n : Nat) : GH := [(.ins "Town" [("own_tables", (.tup [(.tup [(.tup [(.int 1)])]), (.tup [(.tup [(.int 2)])]), (.tup [(.tup [(.int 3)])])])), ("own_way", (.str "free")), ("own_many", (.int 3)), ("rows", (.obj 51)), ("own_written", (.obj 52)), ("told_rows", (.obj 53)), ("fall_rows", (.obj 54)), ("begun_from", (.obj 55)), ("done", (.obj 56))]), (.lst []), (.lst [(.int 0), (.int 0), (.int 0)]), (.lst []), (.lst []), (.lst [(.int 0), (.int 0), (.int 0)]), (.lst []), (.frz (.lst [(.tup [(.str "put"), (.int 0), (.int n)]), (.tup [(.str "step"), (.int 0), (.int 3), (.int 0)]), (.tup [(.str "step"), (.int 1), (.int 0), (.int 0)]), (.tup [(.str "step"), (.int 2), (.int 1), (.int 0)])])), (.lst [(.tup [(.tup [(.str "own"), (.int 3), (.int n)]), (.int 0)]), (.tup [(.tup [(.str "send"), (.int 3), (.int 0)]), (.int 0)])]), (.lst [(.int 0), (.int 0), (.int 0)]), (.lst []), (.lst []), (.lst [(.int 0), (.int 0), (.int 0)]), (.lst [(.tup [(.str "put"), (.int 0), (.int n)])]), (.lst [(.tup [(.tup [(.str "own"), (.int 3), (.int n)]), (.int 0)]), (.tup [(.tup [(.str "send"), (.int 3), (.int 0)]), (.int 0)]), (.tup [(.tup [(.str "take"), (.int 0), (.int 3), (.int 0)]), (.int 1)]), (.tup [(.tup [(.str "send"), (.int 0), (.int 1)]), (.int 1)])]), (.lst [(.int 0), (.int 0), (.int 0)]), (.lst []), (.lst []), (.lst [(.int 0), (.int 0), (.int 0)]), (.lst [(.tup [(.str "put"), (.int 0), (.int n)]), (.tup [(.str "step"), (.int 0), (.int 3), (.int 0)])]), (.lst [(.tup [(.tup [(.str "own"), (.int 3), (.int n)]), (.int 0)]), (.tup [(.tup [(.str "send"), (.int 3), (.int 0)]), (.int 0)]), (.tup [(.tup [(.str "take"), (.int 0), (.int 3), (.int 0)]), (.int 1)]), (.tup [(.tup [(.str "send"), (.int 0), (.int 1)]), (.int 1)]), (.tup [(.tup [(.str "take"), (.int 1), (.int 0), (.int 0)]), (.int 1)]), (.tup [(.tup [(.str "send"), (.int 1), (.int 2)]), (.int 1)])]), (.lst [(.int 0), (.int 0), (.int 0)]), (.lst []), (.lst []), (.lst [(.int 0), (.int 0), (.int 0)]), (.lst [(.tup [(.str "put"), (.int 0), (.int n)]), (.tup [(.str "step"), (.int 0), (.int 3), (.int 0)]), (.tup [(.str "step"), (.int 1), (.int 0), (.int 0)])]), (.lst [(.tup [(.tup [(.str "own"), (.int 3), (.int n)]), (.int 0)]), (.tup [(.tup [(.str "send"), (.int 3), (.int 0)]), (.int 0)]), (.tup [(.tup [(.str "take"), (.int 0), (.int 3), (.int 0)]), (.int 1)]), (.tup [(.tup [(.str "send"), (.int 0), (.int 1)]), (.int 1)]), (.tup [(.tup [(.str "take"), (.int 1), (.int 0), (.int 0)]), (.int 1)]), (.tup [(.tup [(.str "send"), (.int 1), (.int 2)]), (.int 1)]), (.tup [(.tup [(.str "take"), (.int 2), (.int 1), (.int 0)]), (.int 1)]), (.tup [(.tup [(.str "send"), (.int 2), (.int 3)]), (.int 1)])]), (.lst [(.int 0), (.int 0), (.int 0)]), (.lst []), (.lst []), (.lst [(.int 0), (.int 0), (.int 0)]), (.lst [(.tup [(.str "put"), (.int 0), (.int n)]), (.tup [(.str "step"), (.int 0), (.int 3), (.int 0)]), (.tup [(.str "step"), (.int 1), (.int 0), (.int 0)]), (.tup [(.str "step"), (.int 2), (.int 1), (.int 0)])]), (.lst [(.tup [(.int 2), (.int 0)])]), (.lst [(.tup [(.int 2), (.int 0)])]), (.lst []), (.lst []), (.lst [(.int 2), (.int 1)]), (.lst [(.tup [(.tup [(.str "own"), (.int 3), (.int n)]), (.int 0)]), (.tup [(.tup [(.str "send"), (.int 3), (.int 0)]), (.int 0)]), (.tup [(.tup [(.str "take"), (.int 0), (.int 3), (.int 0)]), (.int 1)]), (.tup [(.tup [(.str "send"), (.int 0), (.int 1)]), (.int 1)]), (.tup [(.tup [(.str "take"), (.int 1), (.int 0), (.int 0)]), (.int 1)]), (.tup [(.tup [(.str "send"), (.int 1), (.int 2)]), (.int 1)]), (.tup [(.tup [(.str "take"), (.int 2), (.int 1), (.int 0)]), (.int 1)]), (.tup [(.tup [(.str "send"), (.int 2), (.int 3)]), (.int 1)])]), (.lst [(.int 0), (.int 0), (.int 1)]), (.lst []), (.lst []), (.lst [(.int 0), (.int 0), (.int 0)]), (.lst [(.tup [(.str "put"), (.int 0), (.int n)]), (.tup [(.str "step"), (.int 0), (.int 3), (.int 0)]), (.tup [(.str "step"), (.int 1), (.int 0), (.int 0)]), (.tup [(.str "step"), (.int 2), (.int 1), (.int 0)]), (.tup [(.str "write"), (.int 2)])]), (.lst [(.tup [(.tup [(.str "own"), (.int 3), (.int n)]), (.int 0)]), (.tup [(.tup [(.str "send"), (.int 3), (.int 0)]), (.int 0)]), (.tup [(.tup [(.str "take"), (.int 0), (.int 3), (.int 0)]), (.int 1)]), (.tup [(.tup [(.str "send"), (.int 0), (.int 1)]), (.int 1)]), (.tup [(.tup [(.str "take"), (.int 1), (.int 0), (.int 0)]), (.int 1)]), (.tup [(.tup [(.str "send"), (.int 1), (.int 2)]), (.int 1)]), (.tup [(.tup [(.str "take"), (.int 2), (.int 1), (.int 0)]), (.int 1)]), (.tup [(.tup [(.str "send"), (.int 2), (.int 3)]), (.int 1)])]), (.lst [(.int 0), (.int 1), (.int 1)]), (.lst []), (.lst []), (.lst [(.int 0), (.int 0), (.int 0)]), (.lst [(.tup [(.str "put"), (.int 0), (.int n)]), (.tup [(.str "step"), (.int 0), (.int 3), (.int 0)]), (.tup [(.str "step"), (.int 1), (.int 0), (.int 0)]), (.tup [(.str "step"), (.int 2), (.int 1), (.int 0)]), (.tup [(.str "write"), (.int 2)]), (.tup [(.str "write"), (.int 1)])]), (.lst []), (.lst []), (.lst [(.tup [(.tup [(.str "own"), (.int 3), (.int n)]), (.int 0)]), (.tup [(.tup [(.str "send"), (.int 3), (.int 0)]), (.int 0)]), (.tup [(.tup [(.str "take"), (.int 0), (.int 3), (.int 0)]), (.int 1)]), (.tup [(.tup [(.str "send"), (.int 0), (.int 1)]), (.int 1)]), (.tup [(.tup [(.str "take"), (.int 1), (.int 0), (.int 0)]), (.int 1)]), (.tup [(.tup [(.str "send"), (.int 1), (.int 2)]), (.int 1)]), (.tup [(.tup [(.str "take"), (.int 2), (.int 1), (.int 0)]), (.int 1)]), (.tup [(.tup [(.str "send"), (.int 2), (.int 3)]), (.int 1)]), (.tup [(.tup [(.str "take"), (.int 3), (.int 2), (.int 0)]), (.int 0)])]), (.lst [(.int 1), (.int 1), (.int 1)]), (.lst [(.tup [(.int 2), (.int 0), (.int (imod (3 * 0 + imod (3 * 0 + imod (3 * 0 + n + 1) (999 + 1) + 1) (999 + 1) + 1) (999 + 1)))])]), (.lst []), (.lst [(.int 0), (.int 0), (.int 0)]), (.lst [(.tup [(.str "put"), (.int 0), (.int n)]), (.tup [(.str "step"), (.int 0), (.int 3), (.int 0)]), (.tup [(.str "step"), (.int 1), (.int 0), (.int 0)]), (.tup [(.str "step"), (.int 2), (.int 1), (.int 0)]), (.tup [(.str "write"), (.int 2)]), (.tup [(.str "write"), (.int 1)]), (.tup [(.str "write"), (.int 0)])]), (.lst [(.tup [(.int 2), (.int 0), (.int (imod (3 * 0 + imod (3 * 0 + imod (3 * 0 + n + 1) (999 + 1) + 1) (999 + 1) + 1) (999 + 1)))])])]
def kG11 (n : Nat) : GH := [(.ins "Town" [("own_tables", (.tup [(.tup [(.tup [(.int 1)])]), (.tup [(.tup [(.int 2)])]), (.tup [(.tup [(.int 3)])])])), ("own_way", (.str "free")), ("own_many", (.int 3)), ("rows", (.obj 51)), ("own_written", (.obj 52)), ("told_rows", (.obj 53)), ("fall_rows", (.obj 54)), ("begun_from", (.obj 55)), ("done", (.obj 56))]), (.lst []), (.lst [(.int 0), (.int 0), (.int 0)]), (.lst []), (.lst []), (.lst [(.int 0), (.int 0), (.int 0)]), (.lst []), (.frz (.lst [(.tup [(.str "put"), (.int 0), (.int n)]), (.tup [(.str "step"), (.int 0), (.int 3), (.int 0)]), (.tup [(.str "step"), (.int 1), (.int 0), (.int 0)]), (.tup [(.str "step"), (.int 2), (.int 1), (.int 0)])])), (.lst [(.tup [(.tup [(.str "own"), (.int 3), (.int n)]), (.int 0)]), (.tup [(.tup [(.str "send"), (.int 3), (.int 0)]), (.int 0)])]), (.lst [(.int 0), (.int 0), (.int 0)]), (.lst []), (.lst []), (.lst [(.int 0), (.int 0), (.int 0)]), (.lst [(.tup [(.str "put"), (.int 0), (.int n)])]), (.lst [(.tup [(.tup [(.str "own"), (.int 3), (.int n)]), (.int 0)]), (.tup [(.tup [(.str "send"), (.int 3), (.int 0)]), (.int 0)]), (.tup [(.tup [(.str "take"), (.int 0), (.int 3), (.int 0)]), (.int 1)]), (.tup [(.tup [(.str "send"), (.int 0), (.int 1)]), (.int 1)])]), (.lst [(.int 0), (.int 0), (.int 0)]), (.lst []), (.lst []), (.lst [(.int 0), (.int 0), (.int 0)]), (.lst [(.tup [(.str "put"), (.int 0), (.int n)]), (.tup [(.str "step"), (.int 0), (.int 3), (.int 0)])]), (.lst [(.tup [(.tup [(.str "own"), (.int 3), (.int n)]), (.int 0)]), (.tup [(.tup [(.str "send"), (.int 3), (.int 0)]), (.int 0)]), (.tup [(.tup [(.str "take"), (.int 0), (.int 3), (.int 0)]), (.int 1)]), (.tup [(.tup [(.str "send"), (.int 0), (.int 1)]), (.int 1)]), (.tup [(.tup [(.str "take"), (.int 1), (.int 0), (.int 0)]), (.int 1)]), (.tup [(.tup [(.str "send"), (.int 1), (.int 2)]), (.int 1)])]), (.lst [(.int 0), (.int 0), (.int 0)]), (.lst []), (.lst []), (.lst [(.int 0), (.int 0), (.int 0)]), (.lst [(.tup [(.str "put"), (.int 0), (.int n)]), (.tup [(.str "step"), (.int 0), (.int 3), (.int 0)]), (.tup [(.str "step"), (.int 1), (.int 0), (.int 0)])]), (.lst [(.tup [(.tup [(.str "own"), (.int 3), (.int n)]), (.int 0)]), (.tup [(.tup [(.str "send"), (.int 3), (.int 0)]), (.int 0)]), (.tup [(.tup [(.str "take"), (.int 0), (.int 3), (.int 0)]), (.int 1)]), (.tup [(.tup [(.str "send"), (.int 0), (.int 1)]), (.int 1)]), (.tup [(.tup [(.str "take"), (.int 1), (.int 0), (.int 0)]), (.int 1)]), (.tup [(.tup [(.str "send"), (.int 1), (.int 2)]), (.int 1)]), (.tup [(.tup [(.str "take"), (.int 2), (.int 1), (.int 0)]), (.int 1)]), (.tup [(.tup [(.str "send"), (.int 2), (.int 3)]), (.int 1)])]), (.lst [(.int 0), (.int 0), (.int 0)]), (.lst []), (.lst []), (.lst [(.int 0), (.int 0), (.int 0)]), (.lst [(.tup [(.str "put"), (.int 0), (.int n)]), (.tup [(.str "step"), (.int 0), (.int 3), (.int 0)]), (.tup [(.str "step"), (.int 1), (.int 0), (.int 0)]), (.tup [(.str "step"), (.int 2), (.int 1), (.int 0)])]), (.lst [(.tup [(.int 2), (.int 0)])]), (.lst [(.tup [(.int 2), (.int 0)])]), (.lst []), (.lst []), (.lst [(.int 2), (.int 1)]), (.lst [(.tup [(.tup [(.str "own"), (.int 3), (.int n)]), (.int 0)]), (.tup [(.tup [(.str "send"), (.int 3), (.int 0)]), (.int 0)]), (.tup [(.tup [(.str "take"), (.int 0), (.int 3), (.int 0)]), (.int 1)]), (.tup [(.tup [(.str "send"), (.int 0), (.int 1)]), (.int 1)]), (.tup [(.tup [(.str "take"), (.int 1), (.int 0), (.int 0)]), (.int 1)]), (.tup [(.tup [(.str "send"), (.int 1), (.int 2)]), (.int 1)]), (.tup [(.tup [(.str "take"), (.int 2), (.int 1), (.int 0)]), (.int 1)]), (.tup [(.tup [(.str "send"), (.int 2), (.int 3)]), (.int 1)])]), (.lst [(.int 0), (.int 0), (.int 1)]), (.lst []), (.lst []), (.lst [(.int 0), (.int 0), (.int 0)]), (.lst [(.tup [(.str "put"), (.int 0), (.int n)]), (.tup [(.str "step"), (.int 0), (.int 3), (.int 0)]), (.tup [(.str "step"), (.int 1), (.int 0), (.int 0)]), (.tup [(.str "step"), (.int 2), (.int 1), (.int 0)]), (.tup [(.str "write"), (.int 2)])]), (.lst [(.tup [(.tup [(.str "own"), (.int 3), (.int n)]), (.int 0)]), (.tup [(.tup [(.str "send"), (.int 3), (.int 0)]), (.int 0)]), (.tup [(.tup [(.str "take"), (.int 0), (.int 3), (.int 0)]), (.int 1)]), (.tup [(.tup [(.str "send"), (.int 0), (.int 1)]), (.int 1)]), (.tup [(.tup [(.str "take"), (.int 1), (.int 0), (.int 0)]), (.int 1)]), (.tup [(.tup [(.str "send"), (.int 1), (.int 2)]), (.int 1)]), (.tup [(.tup [(.str "take"), (.int 2), (.int 1), (.int 0)]), (.int 1)]), (.tup [(.tup [(.str "send"), (.int 2), (.int 3)]), (.int 1)])]), (.lst [(.int 0), (.int 1), (.int 1)]), (.lst []), (.lst []), (.lst [(.int 0), (.int 0), (.int 0)]), (.lst [(.tup [(.str "put"), (.int 0), (.int n)]), (.tup [(.str "step"), (.int 0), (.int 3), (.int 0)]), (.tup [(.str "step"), (.int 1), (.int 0), (.int 0)]), (.tup [(.str "step"), (.int 2), (.int 1), (.int 0)]), (.tup [(.str "write"), (.int 2)]), (.tup [(.str "write"), (.int 1)])]), (.lst []), (.lst []), (.lst [(.tup [(.tup [(.str "own"), (.int 3), (.int n)]), (.int 0)]), (.tup [(.tup [(.str "send"), (.int 3), (.int 0)]), (.int 0)]), (.tup [(.tup [(.str "take"), (.int 0), (.int 3), (.int 0)]), (.int 1)]), (.tup [(.tup [(.str "send"), (.int 0), (.int 1)]), (.int 1)]), (.tup [(.tup [(.str "take"), (.int 1), (.int 0), (.int 0)]), (.int 1)]), (.tup [(.tup [(.str "send"), (.int 1), (.int 2)]), (.int 1)]), (.tup [(.tup [(.str "take"), (.int 2), (.int 1), (.int 0)]), (.int 1)]), (.tup [(.tup [(.str "send"), (.int 2), (.int 3)]), (.int 1)]), (.tup [(.tup [(.str "take"), (.int 3), (.int 2), (.int 0)]), (.int 0)])]), (.lst [(.int 1), (.int 1), (.int 1)]), (.lst [(.tup [(.int 2), (.int 0), (.int (imod (3 * 0 + imod (3 * 0 + imod (3 * 0 + n + 1) (999 + 1) + 1) (999 + 1) + 1) (999 + 1)))])]), (.lst []), (.lst [(.int 0), (.int 0), (.int 0)]), (.lst [(.tup [(.str "put"), (.int 0), (.int n)]), (.tup [(.str "step"), (.int 0), (.int 3), (.int 0)]), (.tup [(.str "step"), (.int 1), (.int 0), (.int 0)]), (.tup [(.str "step"), (.int 2), (.int 1), (.int 0)]), (.tup [(.str "write"), (.int 2)]), (.tup [(.str "write"), (.int 1)]), (.tup [(.str "write"), (.int 0)])]), (.lst [(.tup [(.int 2), (.int 0), (.int (imod (3 * 0 + imod (3 * 0 + imod (3 * 0 + n + 1) (999 + 1) + 1) (999 + 1) + 1) (999 + 1)))])]), (.lst [(.tup [(.int 2), (.int 0), (.int (imod (imod (imod (n + 1) 1000 + 1) 1000 + 1) 1000))])])]
def kG12 (n : Nat) : GH := [(.ins "Town" [("own_tables", (.tup [(.tup [(.tup [(.int 1)])]), (.tup [(.tup [(.int 2)])]), (.tup [(.tup [(.int 3)])])])), ("own_way", (.str "free")), ("own_many", (.int 3)), ("rows", (.obj 51)), ("own_written", (.obj 52)), ("told_rows", (.obj 53)), ("fall_rows", (.obj 54)), ("begun_from", (.obj 55)), ("done", (.obj 56))]), (.lst []), (.lst [(.int 0), (.int 0), (.int 0)]), (.lst []), (.lst []), (.lst [(.int 0), (.int 0), (.int 0)]), (.lst []), (.frz (.lst [(.tup [(.str "put"), (.int 0), (.int n)]), (.tup [(.str "step"), (.int 0), (.int 3), (.int 0)]), (.tup [(.str "step"), (.int 1), (.int 0), (.int 0)]), (.tup [(.str "step"), (.int 2), (.int 1), (.int 0)])])), (.lst [(.tup [(.tup [(.str "own"), (.int 3), (.int n)]), (.int 0)]), (.tup [(.tup [(.str "send"), (.int 3), (.int 0)]), (.int 0)])]), (.lst [(.int 0), (.int 0), (.int 0)]), (.lst []), (.lst []), (.lst [(.int 0), (.int 0), (.int 0)]), (.lst [(.tup [(.str "put"), (.int 0), (.int n)])]), (.lst [(.tup [(.tup [(.str "own"), (.int 3), (.int n)]), (.int 0)]), (.tup [(.tup [(.str "send"), (.int 3), (.int 0)]), (.int 0)]), (.tup [(.tup [(.str "take"), (.int 0), (.int 3), (.int 0)]), (.int 1)]), (.tup [(.tup [(.str "send"), (.int 0), (.int 1)]), (.int 1)])]), (.lst [(.int 0), (.int 0), (.int 0)]), (.lst []), (.lst []), (.lst [(.int 0), (.int 0), (.int 0)]), (.lst [(.tup [(.str "put"), (.int 0), (.int n)]), (.tup [(.str "step"), (.int 0), (.int 3), (.int 0)])]), (.lst [(.tup [(.tup [(.str "own"), (.int 3), (.int n)]), (.int 0)]), (.tup [(.tup [(.str "send"), (.int 3), (.int 0)]), (.int 0)]), (.tup [(.tup [(.str "take"), (.int 0), (.int 3), (.int 0)]), (.int 1)]), (.tup [(.tup [(.str "send"), (.int 0), (.int 1)]), (.int 1)]), (.tup [(.tup [(.str "take"), (.int 1), (.int 0), (.int 0)]), (.int 1)]), (.tup [(.tup [(.str "send"), (.int 1), (.int 2)]), (.int 1)])]), (.lst [(.int 0), (.int 0), (.int 0)]), (.lst []), (.lst []), (.lst [(.int 0), (.int 0), (.int 0)]), (.lst [(.tup [(.str "put"), (.int 0), (.int n)]), (.tup [(.str "step"), (.int 0), (.int 3), (.int 0)]), (.tup [(.str "step"), (.int 1), (.int 0), (.int 0)])]), (.lst [(.tup [(.tup [(.str "own"), (.int 3), (.int n)]), (.int 0)]), (.tup [(.tup [(.str "send"), (.int 3), (.int 0)]), (.int 0)]), (.tup [(.tup [(.str "take"), (.int 0), (.int 3), (.int 0)]), (.int 1)]), (.tup [(.tup [(.str "send"), (.int 0), (.int 1)]), (.int 1)]), (.tup [(.tup [(.str "take"), (.int 1), (.int 0), (.int 0)]), (.int 1)]), (.tup [(.tup [(.str "send"), (.int 1), (.int 2)]), (.int 1)]), (.tup [(.tup [(.str "take"), (.int 2), (.int 1), (.int 0)]), (.int 1)]), (.tup [(.tup [(.str "send"), (.int 2), (.int 3)]), (.int 1)])]), (.lst [(.int 0), (.int 0), (.int 0)]), (.lst []), (.lst []), (.lst [(.int 0), (.int 0), (.int 0)]), (.lst [(.tup [(.str "put"), (.int 0), (.int n)]), (.tup [(.str "step"), (.int 0), (.int 3), (.int 0)]), (.tup [(.str "step"), (.int 1), (.int 0), (.int 0)]), (.tup [(.str "step"), (.int 2), (.int 1), (.int 0)])]), (.lst [(.tup [(.int 2), (.int 0)])]), (.lst [(.tup [(.int 2), (.int 0)])]), (.lst []), (.lst []), (.lst [(.int 2), (.int 1)]), (.lst [(.tup [(.tup [(.str "own"), (.int 3), (.int n)]), (.int 0)]), (.tup [(.tup [(.str "send"), (.int 3), (.int 0)]), (.int 0)]), (.tup [(.tup [(.str "take"), (.int 0), (.int 3), (.int 0)]), (.int 1)]), (.tup [(.tup [(.str "send"), (.int 0), (.int 1)]), (.int 1)]), (.tup [(.tup [(.str "take"), (.int 1), (.int 0), (.int 0)]), (.int 1)]), (.tup [(.tup [(.str "send"), (.int 1), (.int 2)]), (.int 1)]), (.tup [(.tup [(.str "take"), (.int 2), (.int 1), (.int 0)]), (.int 1)]), (.tup [(.tup [(.str "send"), (.int 2), (.int 3)]), (.int 1)])]), (.lst [(.int 0), (.int 0), (.int 1)]), (.lst []), (.lst []), (.lst [(.int 0), (.int 0), (.int 0)]), (.lst [(.tup [(.str "put"), (.int 0), (.int n)]), (.tup [(.str "step"), (.int 0), (.int 3), (.int 0)]), (.tup [(.str "step"), (.int 1), (.int 0), (.int 0)]), (.tup [(.str "step"), (.int 2), (.int 1), (.int 0)]), (.tup [(.str "write"), (.int 2)])]), (.lst [(.tup [(.tup [(.str "own"), (.int 3), (.int n)]), (.int 0)]), (.tup [(.tup [(.str "send"), (.int 3), (.int 0)]), (.int 0)]), (.tup [(.tup [(.str "take"), (.int 0), (.int 3), (.int 0)]), (.int 1)]), (.tup [(.tup [(.str "send"), (.int 0), (.int 1)]), (.int 1)]), (.tup [(.tup [(.str "take"), (.int 1), (.int 0), (.int 0)]), (.int 1)]), (.tup [(.tup [(.str "send"), (.int 1), (.int 2)]), (.int 1)]), (.tup [(.tup [(.str "take"), (.int 2), (.int 1), (.int 0)]), (.int 1)]), (.tup [(.tup [(.str "send"), (.int 2), (.int 3)]), (.int 1)])]), (.lst [(.int 0), (.int 1), (.int 1)]), (.lst []), (.lst []), (.lst [(.int 0), (.int 0), (.int 0)]), (.lst [(.tup [(.str "put"), (.int 0), (.int n)]), (.tup [(.str "step"), (.int 0), (.int 3), (.int 0)]), (.tup [(.str "step"), (.int 1), (.int 0), (.int 0)]), (.tup [(.str "step"), (.int 2), (.int 1), (.int 0)]), (.tup [(.str "write"), (.int 2)]), (.tup [(.str "write"), (.int 1)])]), (.lst []), (.lst []), (.lst [(.tup [(.tup [(.str "own"), (.int 3), (.int n)]), (.int 0)]), (.tup [(.tup [(.str "send"), (.int 3), (.int 0)]), (.int 0)]), (.tup [(.tup [(.str "take"), (.int 0), (.int 3), (.int 0)]), (.int 1)]), (.tup [(.tup [(.str "send"), (.int 0), (.int 1)]), (.int 1)]), (.tup [(.tup [(.str "take"), (.int 1), (.int 0), (.int 0)]), (.int 1)]), (.tup [(.tup [(.str "send"), (.int 1), (.int 2)]), (.int 1)]), (.tup [(.tup [(.str "take"), (.int 2), (.int 1), (.int 0)]), (.int 1)]), (.tup [(.tup [(.str "send"), (.int 2), (.int 3)]), (.int 1)]), (.tup [(.tup [(.str "take"), (.int 3), (.int 2), (.int 0)]), (.int 0)])]), (.lst [(.int 1), (.int 1), (.int 1)]), (.lst [(.tup [(.int 2), (.int 0), (.int (imod (3 * 0 + imod (3 * 0 + imod (3 * 0 + n + 1) (999 + 1) + 1) (999 + 1) + 1) (999 + 1)))])]), (.lst []), (.lst [(.int 0), (.int 0), (.int 0)]), (.lst [(.tup [(.str "put"), (.int 0), (.int n)]), (.tup [(.str "step"), (.int 0), (.int 3), (.int 0)]), (.tup [(.str "step"), (.int 1), (.int 0), (.int 0)]), (.tup [(.str "step"), (.int 2), (.int 1), (.int 0)]), (.tup [(.str "write"), (.int 2)]), (.tup [(.str "write"), (.int 1)]), (.tup [(.str "write"), (.int 0)])]), (.lst [(.tup [(.int 2), (.int 0), (.int (imod (3 * 0 + imod (3 * 0 + imod (3 * 0 + n + 1) (999 + 1) + 1) (999 + 1) + 1) (999 + 1)))])]), (.lst [(.tup [(.int 2), (.int 0), (.int (imod (imod (imod (n + 1) 1000 + 1) 1000 + 1) 1000))])])]
def kMid : SM := (sSeq T__law_free_right_2 (sSeq T__law_free_right_3 (sSeq T__law_free_right_4 (sSeq T__law_free_right_5 (sSeq T__law_free_right_6 (sSeq T__law_free_right_7 T__law_free_right_8))))))
theorem k_9 (n : Nat) : (forN (kC n) (gNm 2) kB (kM n) (kR2 n) (kG2 n)).nx kMid = .ok (.nx (kR9 n)) (kG9 n) := by kernel_rfl
theorem k_told (n : Nat) : (mMethL "Town" "told" M_Town_told 1 (mVar 1) mNil) (kR9 n) (kG9 n) = .ok (.obj 57) (kG10 n) := by kernel_rfl
theorem k_lst (n : Nat) : (mLst (mCons (mTup (mCons (mC (.int 2)) (mCons (mC (.int 0)) (mCons (mOp2 opMod (mOp2 opAdd (mVar 5) (mC (.int 1))) (mC (.int 1000))) mNil)))) mNil)) (kR9 n) (kG10 n) = .ok (.obj 58) (kG11 n) := by kernel_rfl
theorem k_B (n : Nat) : (mOp2 opNe (mCallL M_lost_by 2 (mCons (mVar 1) (mCons (mTup (mCons (mC (.int 0)) (mCons (mC (.int 1)) (mCons (mC (.int 2)) mNil)))) mNil))) (mTup (mCons (mC (.int 0)) (mCons (mC (.int 0)) (mCons (mC (.int 0)) mNil))))) (kR9 n) (kG11 n) = .ok (.bl false) (kG12 n) := by kernel_rfl
theorem k_WX (n : Nat) : imod (3 * 0 + imod (3 * 0 + imod (3 * 0 + n + 1) (999 + 1) + 1) (999 + 1) + 1) (999 + 1) = imod (imod (imod (n + 1) 1000 + 1) 1000 + 1) 1000 := by simp [imod_eq]
theorem k_s1 (n : Nat) : snapD (kG11 n) 16 (.obj 57) = some (.rol [.tup [.int 2, .int 0, .int (imod (3 * 0 + imod (3 * 0 + imod (3 * 0 + n + 1) (999 + 1) + 1) (999 + 1) + 1) (999 + 1))]]) := by kernel_rfl
theorem k_s2 (n : Nat) : snapD (kG11 n) 16 (.obj 58) = some (.rol [.tup [.int 2, .int 0, .int (imod (imod (imod (n + 1) 1000 + 1) 1000 + 1) 1000)]]) := by kernel_rfl
theorem k_fit (x : Int) : D.fit 16 (.rol [.tup [.int 2, .int 0, .int x]]) = true := by kernel_rfl
theorem k_A (n : Nat) : mOp2 opNe (mMethL "Town" "told" M_Town_told 1 (mVar 1) mNil) (mLst (mCons (mTup (mCons (mC (.int 2)) (mCons (mC (.int 0)) (mCons (mOp2 opMod (mOp2 opAdd (mVar 5) (mC (.int 1))) (mC (.int 1000))) mNil)))) mNil)) (kR9 n) (kG9 n) = .ok (.bl false) (kG11 n) := ne_same (k_told n) (k_lst n) (eq_same (by rw [← k_WX n]; exact k_s1 n) (k_s2 n) (k_fit _))
theorem k_T9 (n : Nat) : T__law_free_right_9 (kR9 n) (kG9 n) = .ok (.nx (kR9 n)) (kG12 n) := (sIf_f (mOr_false (k_A n) (k_B n))).trans rfl
theorem k_T10 (n : Nat) : isT (T__law_free_right_10 (kR9 n) (kG12 n)) = true := by kernel_rfl
theorem seq_nx2 {r : RS} {a b : SM} {ρ : Rho} {g : GH} (h : r.nx a = .ok (.nx ρ) g) : r.nx (sSeq a b) = b ρ g := by
  cases r with
  | ok f g1 => cases f with
    | nx ρ1 => exact seq_nx h
    | _ => cases h
  | _ => cases h
theorem seq_as (a b c : SM) : sSeq (sSeq a b) c = sSeq a (sSeq b c) := by
  funext ρ g
  unfold sSeq
  cases a ρ g with
  | ok f g1 => cases f <;> rfl
  | _ => rfl
theorem k_rest_eq : kRest = sSeq kMid (sSeq T__law_free_right_9 T__law_free_right_10) := by unfold kRest kMid; simp only [seq_as]
theorem holds {n : Nat} (h : n < 1000) : ∃ g, M__law_free_right [.int n] [] = .ok (.bl true) g := by
  obtain ⟨g, e⟩ := isT_ok (k_T10 n)
  refine ⟨g, fnM_rt (N := 6) (B := B__law_free_right) (ds := [.int n]) ((seq_nx (k_0 n)).trans ((seq_eq (k_1 h)).trans ?_))⟩
  show (forN (kC n) (gNm 2) kB (kM n) (kR2 n) (kG2 n)).nx kRest = _
  rw [k_rest_eq]
  exact (seq_nx2 (k_9 n)).trans ((seq_nx (k_T9 n)).trans e)
end K42.Free

namespace K42
open PySem L3 L2
theorem tk_eq : M__law_take = fTake := rfl
theorem pl_eq : M__law_pool = fPool := rfl
theorem holds (ns : List Int) (_ : ns.length ≤ 63) : ∃ g', M_law [.rol (ns.map .int)] [] = .ok (.bl true) g' := by
  obtain ⟨o, ho, ep⟩ := callL_pool ns 0 (by decide) []
  rw [← pl_eq] at ep
  obtain ⟨x, o', h0, h1, _, et⟩ := callL_take (g := [o]) (p := 0) (s := 1000) rfl ho (by decide) (by decide)
  rw [← tk_eq] at et
  have hn : x.toNat < 1000 := by omega
  have hx : (x.toNat : Int) = x := by omega
  obtain ⟨g1, e1⟩ := Free.holds hn
  obtain ⟨g2, e2⟩ := Wait.holds hn
  obtain ⟨g3, e3⟩ := Along.holds hn
  rw [hx] at e1 e2 e3
  exact ⟨_, fnM_rt (N := 3) (B := B_law) (ds := [.rol (ns.map .int)]) ((seq_nx (sAsg_nm ((mCallL_2 (mVar_ok rfl) mC_ok).trans ep))).trans
    ((seq_nx (sAsg_nm ((mCallL_2 (mVar_ok rfl) mC_ok).trans et))).trans
    (sRet_ok (mAnd_true ((mCallL_1 (mVar_ok rfl)).trans (callL_int e1)) (mAnd_true ((mCallL_1 (mVar_ok rfl)).trans (callL_int e2)) ((mCallL_1 (mVar_ok rfl)).trans (callL_int e3)))))))⟩
end K42

namespace K42
open PySem PySem.Spec PyProof.Rows L2 L3
def nm0 : List PySem.Str := ["_wall", "ReturnError", "NoDeed", "NoTables", "NoWay", "NoHand", "TooMany", "MOST_DEEDS", "MOST_WORTH", "UP", "REST", "is_whole", "is_within", "taken_worth", "Going", "WAYS", "WAIT", "ALONG", "FEWEST", "MOST", "MOST_TUPLES", "MOST_TARGETS", "SIZES", "are_targets", "are_tables", "are_fallen", "Bearing", "Town", "settled", "lost_by"]
def nm1 : List PySem.Str := ["_law_pool", "_law_take", "_law_row_of", "_law_free_right", "_law_wait_right", "_law_along_right"]
def names : List PySem.Str := nm0 ++ nm1
abbrev RR : PySem.W.OpenRow := PySem.W.OpenLaw.row PySem.Challenge.rw_linesofreturn_k42_known_towns
abbrev hk : PySem.W.Hook := He.hookX 5 fa fn ts [] ex
def ob (s : PySem.W.SharedT) : He.AlX := He.obsX 5 fa fn ts [] ex (HandSHeadRun.getT s)
theorem ob_eq (s : PySem.W.SharedT) : ob s = hk.obs s.abs := He.obsX_eq (HandSHeadRun.getT_eq s)
theorem runs_f (w : World) : HandSHeadRun.RunEq RR (PySem.W.view RR.prog [41]) hk ob 20000 names (w.withFollow "special-get-raises" false) := by
  intro os
  kernel_rfl
theorem runs_t (w : World) : HandSHeadRun.RunEq RR (PySem.W.view RR.prog [41]) hk ob 20000 names (w.withFollow "special-get-raises" true) := by
  intro os
  kernel_rfl
theorem runs (w : World) : HandSHeadRun.RunEq RR (PySem.W.view RR.prog [41]) hk ob 20000 names w :=
  PySem.W.byRow2 "special-get-raises" (P := fun w => HandSHeadRun.RunEq RR (PySem.W.view RR.prog [41]) hk ob 20000 names w) runs_f runs_t w
theorem facts {P : Program} {w : World} {K : PySem.W.Frag} {h h0 : Heap} {mg : Str → Option Value} {f : Addr} (X : K.In h) (G : h.Ns mainGlobals mg) (hfa : mg ("law" : Str) = some (.ref f)) (c : He.SaysX fa fn ts [] ex w h0 K) :
    ∃ fd : FuncData, (∀ (s : Shared) (v : Value), BindsTo s fd ⟨[v], []⟩ [("_law_script", v)]) ∧ ∀ base : Heap, K.In base → base.Ns mainGlobals mg → FnOk P w K mg base (L2.CX P w) 12 f fd ["_law_script"] (spF mg K 1 M_law) := by
  have b : BG w K mg h := ⟨X, G, c.t⟩
  obtain ⟨fd, F⟩ := b.c.d.def_ 47 (d := d_law) rfl
  have e := hfa.symm.trans (b.glo 99)
  cases e
  have bA := FunD.bindsA (ps := ["_law_script"]) F fun _ _ _ _ _ _ us hl => match us, hl with | [_], _ => rfl
  refine ⟨fd, fun s v => bA s [v] rfl, fun base _ _ => ?_⟩
  exact ok_all b c.more F
end K42
open PySem PySem.W PySem.Calls PyProof.Rows in
theorem PySem.Challenge.cw_linesofreturn_k42_known_towns_holds : PySem.Challenge.rw_linesofreturn_k42_known_towns.Holds := by
  w_on; o_law
  refine HandSHeadRun.head_any (r := OpenLaw.row PySem.Challenge.rw_linesofreturn_k42_known_towns) (q := view (OpenLaw.row PySem.Challenge.rw_linesofreturn_k42_known_towns).prog [41]) (H := K42.hk) (ob := K42.ob) (M := 20000) (loose := K42.names) (d := HandSHeadRun.topDef (OpenLaw.row PySem.Challenge.rw_linesofreturn_k42_known_towns).prog 41) (kwd := []) K42.ob_eq
    (by kernel_rfl) (fun s => by kernel_rfl) K42.runs (by kernel_rfl) (by kernel_rfl) (by kernel_rfl) (by rfl) (by first | assumption | decide +kernel) (by decide +kernel) ⟨rfl, rfl, rfl, rfl, rfl, by decide +kernel⟩ ?hw ?hc
  case hw => w_witness2
  case hc =>
    refine L3.walk_l3 (l := PySem.Challenge.rw_linesofreturn_k42_known_towns) (n := 63) (k := 12) (x := "_law_script") (M := K42.M_law) rfl (by decide) (by kernel_rfl) ⟨rfl, by decide, by decide⟩ K42.holds ?F
    intro w mg fa h Y G hmg0
    obtain ⟨K, KX, c⟩ := Y
    have hmg : mg ("law" : PySem.Str) = some (.ref fa) := by
      have e : (HandSHeadRun.topDef (OpenLaw.row PySem.Challenge.rw_linesofreturn_k42_known_towns).prog 41).name = ("law" : PySem.Str) := by kernel_rfl
      rw [← e]
      exact hmg0
    obtain ⟨fd, hb, hF⟩ := K42.facts (P := (PySem.Challenge.rw_linesofreturn_k42_known_towns).prog) (w := w) KX G hmg c
    exact ⟨K, fd, KX, hb, hF⟩

